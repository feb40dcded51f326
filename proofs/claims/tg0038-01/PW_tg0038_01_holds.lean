import PyProof.Rows.All
import Wide.All
import OpenK.AllK
import Wide.FinOn
import PySem.Challenge.RW_tg0038_01
open PySem PySem.W PyProof.Rows
set_option Elab.async false
set_option rowWalk.seconds 0
set_option linter.unusedVariables false
set_option linter.unusedSimpArgs false
set_option compiler.extract_closed false
namespace Mine
section Head
set_option maxRecDepth 100000
set_option maxHeartbeats 8000000
abbrev pw : Program := PySem.Challenge.pw_tg0038_01
noncomputable def nth : List Stmt → Nat → Stmt
  | [], _ => default
  | s :: r, n => match n with
    | 0 => s
    | k + 1 => nth r k
noncomputable def dBody : Stmt → List Stmt
  | .FunctionDef _ _ b _ _ _ _ _ _ _ => b
  | .ClassDef _ _ _ b _ _ _ _ _ _ _ => b
  | _ => []
noncomputable def dArgs : Stmt → Arguments
  | .FunctionDef _ a _ _ _ _ _ _ _ _ => a
  | _ => default
noncomputable def dScope : Stmt → Scope
  | .FunctionDef _ _ _ _ _ _ s _ _ _ => s
  | _ => default
noncomputable def pT (i : Nat) : Stmt := nth pw.main.body i
noncomputable def pM (i j : Nat) : Stmt := nth (dBody (pT i)) j
noncomputable def sl (i n : Nat) : List Stmt := ((behindTheImports pw).drop i).take n
noncomputable def eS (P : Params) (x : Str) (t : Tok) (v : Value) : DictEntry := ⟨PyData.keyHash P x, .str x t, v⟩
noncomputable def fD (n q : Str) (d : Stmt) (g : Addr) (c : List (Str × Addr)) (df kw doc pm : Value) (an : Option Addr) (cd ct : Value) (bi : Addr) : Data := .func ⟨n, q, dArgs d, .stmts (dBody d), dScope d, g, c, df, kw, doc, pm, an, cd, ct, bi⟩
abbrev N := BT.node
abbrev L := BT.nil
noncomputable def o0 (P : Params) : Obj := ⟨Value.type "tuple", Option.none , Data.seq #[] 0, #[]⟩
noncomputable def o1 (P : Params) : Obj := ⟨Value.none, Option.none , Data.fields #[], #[]⟩
noncomputable def o2 (P : Params) : Obj := ⟨Value.type "code", Option.none , Data.fields #[Value.str "<module>" 182, Value.str "<module>" 183, Value.str "/claim/cut.py" 184, Value.int 1 0, Value.int 0 0, Value.int 0 0, Value.int 0 0, Value.int 0 0, Value.ref 11, Value.bool false, Value.int 181 0, Value.ref 12, Value.none, Value.none, Value.none, Value.none, Value.int 185 0, Value.int 1 0, Value.str "/claim/cut.py" 186], #[]⟩
noncomputable def o3 (P : Params) : Obj := ⟨Value.type "frame", Option.none , Data.plain, #[some (Value.ref 13), some (Value.ref 3), some (Value.ref 3), Option.none , some (Value.str "__main__" 164), Option.none , some (Value.ref 0)]⟩
noncomputable def h0 (P : Params) : Heap := ⟨⟨[boot_o_0 P, boot_o_1 P, boot_o_2 P, boot_o_3 P, boot_o_4 P, boot_o_5 P, boot_o_6 P, boot_o_7 P, boot_o_8 P, boot_o_9 P, boot_o_10 P, o0 P, o1 P, o2 P, o3 P]⟩, {}⟩
noncomputable def env0 : Env := { scope := pw.main.scope, locals := mainNs, globals := mainNs, cells := [], code := Value.ref 13, frame := some 14 }
abbrev B0 : List Stmt := behindTheImports pw
noncomputable def t0 (P : Params) : BT := (N (boot_o_0 P) (N (boot_o_1 P) (N (boot_o_3 P) (N (boot_o_7 P) L L) (N (o0 P) L L)) (N (boot_o_5 P) (N (boot_o_9 P) L L) (N (o2 P) L L))) (N (boot_o_2 P) (N (boot_o_4 P) (N (boot_o_8 P) L L) (N (o1 P) L L)) (N (boot_o_6 P) (N (boot_o_10 P) L L) (N (o3 P) L L))))
theorem seg_lift {w : World} {n : Nat} {s s' : SharedT} {t : Thread} {f : Flow} {c : Code} {q : Pos} (h : PySem.W.Fast.tw10110043849684766642 PySem.W.Fast.tw14364793385576792824 pw w 11 (some (.ref 6)) 1 n s t = some (f, s', c, q)) : segRun treeTable pw w 11 (some (.ref 6)) 1 n s.abs t = some (f, s'.abs, c, q) := by
  rewrite [← PySem.W.Fast.te10110043849684766642, ← PySem.W.Fast.te14364793385576792824] at h
  exact segRun_of h
theorem as_list {w : World} {N : Nat} {s : Shared} {b b' : List Stmt} {env : Env} {c : Code} {p : Pos} {B : List Frame} {r : Option Shared} (e : b = b') (k : topRun treeTable pw w 11 (some (.ref 6)) N s (restOf b' env c p B) = r) : topRun treeTable pw w 11 (some (.ref 6)) N s (restOf b env c p B) = r := by
  rw [e]; exact k
theorem pre0 (w : World) : (fun os : OsState => topGo treeTable pw w 11 (some (.ref 6)) 12 ⟨boot_heap w.params, ⟨[]⟩, boot_drawn, boot_toks, os⟩ (topStub pw)) = fun os => some (⟨h0 w.params, ⟨[]⟩, {}, 187, os⟩, ⟨denote treeTable (.body B0 env0), (.body B0 env0), ⟨0, 0, 0, 0⟩, [topFrame ⟨0, 0, 0, 0⟩]⟩) := by
  rewrite [PySem.W.Fast.te15667345088766844465, PySem.W.Fast.te11892475500146522536, PySem.W.Fast.te14364793385576792824]
  kernel_rfl
theorem blk0 (w : World) : (fun os : OsState => segRun treeTable pw w 11 (some (.ref 6)) 1 1 ⟨h0 w.params, ⟨[]⟩, {}, 187, os⟩ (blockOf B0 env0 (.body B0 env0) ⟨0, 0, 0, 0⟩ [topFrame ⟨0, 0, 0, 0⟩])) = fun os => some (Flow.next, SharedT.abs ⟨t0 w.params, 15, {}, ⟨[]⟩, {}, 187, os⟩, (.body B0 env0), ⟨0, 0, 0, 0⟩) := by
  rewrite [PySem.W.Fast.te14374325043358763698, PySem.W.Fast.te14364793385576792824]
  kernel_rfl
noncomputable def o4 (P : Params) : Obj := ⟨Value.type "dict", Option.none , Data.dict #[eS P "__name__" 165 (Value.str "threepress.errors" 194), eS P "__doc__" 166 Value.none, eS P "__package__" 167 Value.none, eS P "__loader__" 168 (Value.builtin "__main__.__loader__#opaque"), eS P "__spec__" 169 Value.none, eS P "__annotations__" 170 (Value.ref 6), eS P "__builtins__" 171 (Value.ref 4), eS P "__file__" 173 (Value.str "/claim/cut.py" 172), eS P "__cached__" 174 Value.none, eS P "_wall" 193 (Value.ref 21), eS P "PressError" 223 (Value.ref 39)] 11, #[]⟩
noncomputable def o5 (P : Params) : Obj := ⟨Value.none, Option.none , Data.fields #[Value.int 1 0, Value.int 0 0, Value.ref 20, Value.int 5 0, Value.int 0 0, Value.ref 27], #[]⟩
noncomputable def o6 (P : Params) : Obj := ⟨Value.type "tuple", Option.none , Data.seq #[] 0, #[]⟩
noncomputable def o7 (P : Params) : Obj := ⟨Value.none, Option.none , Data.fields #[], #[]⟩
noncomputable def o8 (P : Params) : Obj := ⟨Value.type "tuple", Option.none , Data.seq #[Value.str "k" 190] 0, #[]⟩
noncomputable def o9 (P : Params) : Obj := ⟨Value.type "tuple", Option.none , Data.seq #[] 0, #[]⟩
noncomputable def o10 (P : Params) : Obj := ⟨Value.none, Option.none , fD "_wall" "_wall" (pT 0) 0 [] Value.none Value.none Value.none Value.none (Option.none ) Value.none Value.none 0, #[]⟩
noncomputable def o11 (P : Params) : Obj := ⟨Value.type "code", Option.none , Data.fields #[Value.str "_wall" 187, Value.str "_wall" 188, Value.str "/claim/cut.py" 189, Value.int 1 0, Value.int 1 0, Value.int 0 0, Value.int 0 0, Value.int 3 0, Value.ref 15, Value.bool true, Value.int 181 0, Value.ref 16, Value.none, Value.ref 17, Value.ref 18, Value.ref 19, Value.int 191 0, Value.int 1 0, Value.str "/claim/cut.py" 192], #[]⟩
noncomputable def o12 (P : Params) : Obj := ⟨Value.type "function", Option.none , fD "_wall" "_wall" (pT 0) 3 [] Value.none Value.none Value.none (Value.str "__main__" 164) (Option.none ) (Value.ref 20) Value.none 0, #[]⟩
noncomputable def o13 (P : Params) : Obj := ⟨Value.type "tuple", Option.none , Data.seq #[Value.type "ValueError"] 0, #[]⟩
noncomputable def o14 (P : Params) : Obj := ⟨Value.type "builtin_function_or_method", Option.none , Data.fields #[Value.builtin "type.__prepare__", Value.type "type"], #[]⟩
noncomputable def o15 (P : Params) : Obj := ⟨Value.type "dict", Option.none , Data.dict #[eS P "__module__" 203 (Value.str "threepress.errors" 194), eS P "__qualname__" 205 (Value.str "PressError" 204), eS P "__firstlineno__" 207 (Value.int 5 206), eS P "__init__" 216 (Value.ref 36), eS P "__static_attributes__" 218 (Value.ref 37)] 5, #[]⟩
noncomputable def o16 (P : Params) : Obj := ⟨Value.type "tuple", Option.none , Data.seq #[] 0, #[]⟩
noncomputable def o17 (P : Params) : Obj := ⟨Value.none, Option.none , Data.fields #[Value.int 7 0, Value.int 4 0, Value.ref 35], #[]⟩
noncomputable def o18 (P : Params) : Obj := ⟨Value.type "code", Option.none , Data.fields #[Value.str "PressError" 198, Value.str "PressError" 199, Value.str "/claim/cut.py" 200, Value.int 5 0, Value.int 0 0, Value.int 0 0, Value.int 0 0, Value.int 0 0, Value.ref 25, Value.bool false, Value.int 181 0, Value.ref 26, Value.none, Value.none, Value.none, Value.none, Value.int 201 0, Value.int 5 0, Value.str "/claim/cut.py" 202], #[]⟩
noncomputable def o19 (P : Params) : Obj := ⟨Value.type "frame", Option.none , Data.plain, #[some (Value.ref 27), some (Value.ref 3), some (Value.ref 24), Option.none , some (Value.str "threepress.errors" 194), Option.none , some (Value.ref 0)]⟩
noncomputable def o20 (P : Params) : Obj := ⟨Value.type "tuple", Option.none , Data.seq #[Value.str "" 208] 0, #[]⟩
noncomputable def o21 (P : Params) : Obj := ⟨Value.type "tuple", Option.none , Data.seq #[] 0, #[]⟩
noncomputable def o22 (P : Params) : Obj := ⟨Value.none, Option.none , Data.fields #[], #[]⟩
noncomputable def o23 (P : Params) : Obj := ⟨Value.type "tuple", Option.none , Data.seq #[Value.str "self" 212, Value.str "reason" 213] 0, #[]⟩
noncomputable def o24 (P : Params) : Obj := ⟨Value.type "tuple", Option.none , Data.seq #[] 0, #[]⟩
noncomputable def o25 (P : Params) : Obj := ⟨Value.none, Option.none , fD "__init__" "PressError.__init__" (pM 2 0) 0 [] Value.none Value.none Value.none Value.none (Option.none ) Value.none Value.none 0, #[]⟩
noncomputable def o26 (P : Params) : Obj := ⟨Value.type "code", Option.none , Data.fields #[Value.str "__init__" 209, Value.str "PressError.__init__" 210, Value.str "/claim/cut.py" 211, Value.int 7 0, Value.int 2 0, Value.int 0 0, Value.int 0 0, Value.int 3 0, Value.ref 30, Value.bool true, Value.int 181 0, Value.ref 31, Value.none, Value.ref 32, Value.ref 33, Value.ref 34, Value.int 214 0, Value.int 7 0, Value.str "/claim/cut.py" 215], #[]⟩
noncomputable def o27 (P : Params) : Obj := ⟨Value.type "function", Option.none , fD "__init__" "PressError.__init__" (pM 2 0) 3 [] (Value.ref 29) Value.none Value.none (Value.str "threepress.errors" 194) (Option.none ) (Value.ref 35) Value.none 0, #[]⟩
noncomputable def o28 (P : Params) : Obj := ⟨Value.type "tuple", Option.none , Data.seq #[Value.str "reason" 217] 0, #[]⟩
noncomputable def o29 (P : Params) : Obj := ⟨Value.type "dict", Option.none , Data.dict #[eS P "__module__" 203 (Value.str "threepress.errors" 194), eS P "__firstlineno__" 207 (Value.int 5 206), eS P "__init__" 216 (Value.ref 36), eS P "__static_attributes__" 218 (Value.ref 37), eS P "__weakref__" 220 (Value.ref 40), eS P "__doc__" 221 Value.none] 3, #[]⟩
noncomputable def o30 (P : Params) : Obj := ⟨Value.type "type", Option.none , Data.cls ⟨"PressError", [Value.type "ValueError"], [Value.ref 39, Value.type "ValueError", Value.type "Exception", Value.type "BaseException", Value.type "object"], 38, "PressError", true, [], [], false, Option.none , false⟩, #[some (Value.ref 22), Option.none , some (Value.str "PressError" 196), some (Value.str "PressError" 204), some (Value.builtin "ValueError.__new__"), some (Value.bool true)]⟩
noncomputable def o31 (P : Params) : Obj := ⟨Value.type "getset_descriptor", Option.none , Data.fields #[Value.str "__weakref__" 219, Value.ref 39, Value.builtin "ExceptionGroup.__weakref__", Value.none], #[]⟩
noncomputable def o32 (P : Params) : Obj := ⟨Value.type "super", Option.none , Data.fields #[Value.ref 39, Value.ref 39, Value.ref 39], #[]⟩
noncomputable def o33 (P : Params) : Obj := ⟨Value.type "builtin_function_or_method", Option.none , Data.fields #[Value.builtin "object.__init_subclass__", Value.ref 39], #[]⟩
noncomputable def t1 (P : Params) : BT := (N (boot_o_0 P) (N (boot_o_1 P) (N (o4 P) (N (boot_o_7 P) (N (o6 P) (N (o22 P) L L) L) (N (o14 P) (N (o30 P) L L) L)) (N (o0 P) (N (o10 P) (N (o26 P) L L) L) (N (o18 P) L L))) (N (boot_o_5 P) (N (boot_o_9 P) (N (o8 P) (N (o24 P) L L) L) (N (o16 P) (N (o32 P) L L) L)) (N (o2 P) (N (o12 P) (N (o28 P) L L) L) (N (o20 P) L L)))) (N (boot_o_2 P) (N (boot_o_4 P) (N (boot_o_8 P) (N (o7 P) (N (o23 P) L L) L) (N (o15 P) (N (o31 P) L L) L)) (N (o5 P) (N (o11 P) (N (o27 P) L L) L) (N (o19 P) L L))) (N (boot_o_6 P) (N (boot_o_10 P) (N (o9 P) (N (o25 P) L L) L) (N (o17 P) (N (o33 P) L L) L)) (N (o3 P) (N (o13 P) (N (o29 P) L L) L) (N (o21 P) L L)))))
theorem r0 (w : World) : (fun os : OsState => PySem.W.Fast.tw10110043849684766642 PySem.W.Fast.tw14364793385576792824 pw w 11 (some (.ref 6)) 1 259 ⟨t0 w.params, 15, {}, ⟨[]⟩, {}, 187, os⟩ (piecesOf (sl 0 3) env0 (.body B0 env0) ⟨0, 0, 0, 0⟩ [topFrame ⟨0, 0, 0, 0⟩])) = fun os => some (Flow.next, ⟨t1 w.params, 43, {}, ⟨[]⟩, {}, 224, os⟩, (.body B0 env0), ⟨5, 0, 9, 28⟩) := by
  kernel_rfl
noncomputable def o34 (P : Params) : Obj := ⟨Value.type "dict", Option.none , Data.dict #[eS P "__name__" 165 (Value.str "threepress.matches" 240), eS P "__doc__" 166 Value.none, eS P "__package__" 167 Value.none, eS P "__loader__" 168 (Value.builtin "__main__.__loader__#opaque"), eS P "__spec__" 169 Value.none, eS P "__annotations__" 170 (Value.ref 6), eS P "__builtins__" 171 (Value.ref 4), eS P "__file__" 173 (Value.str "/claim/cut.py" 172), eS P "__cached__" 174 Value.none, eS P "_wall" 193 (Value.ref 21), eS P "PressError" 223 (Value.ref 39), eS P "BadArgument" 239 (Value.ref 52), eS P "NOWHERE" 244 (Value.int (-1) 243)] 13, #[]⟩
noncomputable def o35 (P : Params) : Obj := ⟨Value.none, Option.none , Data.fields #[Value.int 1 0, Value.int 0 0, Value.ref 20, Value.int 5 0, Value.int 0 0, Value.ref 27, Value.int 10 0, Value.int 0 0, Value.ref 48], #[]⟩
noncomputable def o36 (P : Params) : Obj := ⟨Value.type "type", Option.none , Data.cls ⟨"PressError", [Value.type "ValueError"], [Value.ref 39, Value.type "ValueError", Value.type "Exception", Value.type "BaseException", Value.type "object"], 38, "PressError", true, [], [Value.ref 52], false, Option.none , false⟩, #[some (Value.ref 22), Option.none , some (Value.str "PressError" 196), some (Value.str "PressError" 204), some (Value.builtin "ValueError.__new__"), some (Value.bool true)]⟩
noncomputable def o37 (P : Params) : Obj := ⟨Value.type "tuple", Option.none , Data.seq #[Value.ref 39] 0, #[]⟩
noncomputable def o38 (P : Params) : Obj := ⟨Value.type "builtin_function_or_method", Option.none , Data.fields #[Value.builtin "type.__prepare__", Value.type "type"], #[]⟩
noncomputable def o39 (P : Params) : Obj := ⟨Value.type "dict", Option.none , Data.dict #[eS P "__module__" 231 (Value.str "threepress.errors" 194), eS P "__qualname__" 233 (Value.str "BadArgument" 232), eS P "__firstlineno__" 235 (Value.int 10 234), eS P "__static_attributes__" 236 (Value.ref 50)] 4, #[]⟩
noncomputable def o40 (P : Params) : Obj := ⟨Value.type "tuple", Option.none , Data.seq #[] 0, #[]⟩
noncomputable def o41 (P : Params) : Obj := ⟨Value.none, Option.none , Data.fields #[], #[]⟩
noncomputable def o42 (P : Params) : Obj := ⟨Value.type "code", Option.none , Data.fields #[Value.str "BadArgument" 226, Value.str "BadArgument" 227, Value.str "/claim/cut.py" 228, Value.int 10 0, Value.int 0 0, Value.int 0 0, Value.int 0 0, Value.int 0 0, Value.ref 46, Value.bool false, Value.int 181 0, Value.ref 47, Value.none, Value.none, Value.none, Value.none, Value.int 229 0, Value.int 10 0, Value.str "/claim/cut.py" 230], #[]⟩
noncomputable def o43 (P : Params) : Obj := ⟨Value.type "frame", Option.none , Data.plain, #[some (Value.ref 48), some (Value.ref 3), some (Value.ref 45), Option.none , some (Value.str "threepress.errors" 194), Option.none , some (Value.ref 0)]⟩
noncomputable def o44 (P : Params) : Obj := ⟨Value.type "tuple", Option.none , Data.seq #[] 0, #[]⟩
noncomputable def o45 (P : Params) : Obj := ⟨Value.type "dict", Option.none , Data.dict #[eS P "__module__" 231 (Value.str "threepress.errors" 194), eS P "__firstlineno__" 235 (Value.int 10 234), eS P "__static_attributes__" 236 (Value.ref 50), eS P "__doc__" 237 Value.none] 2, #[]⟩
noncomputable def o46 (P : Params) : Obj := ⟨Value.type "type", Option.none , Data.cls ⟨"BadArgument", [Value.ref 39], [Value.ref 52, Value.ref 39, Value.type "ValueError", Value.type "Exception", Value.type "BaseException", Value.type "object"], 51, "BadArgument", true, [], [], false, Option.none , false⟩, #[some (Value.ref 43), Option.none , some (Value.str "BadArgument" 224), some (Value.str "BadArgument" 232), some (Value.builtin "ValueError.__new__"), some (Value.bool true)]⟩
noncomputable def o47 (P : Params) : Obj := ⟨Value.type "super", Option.none , Data.fields #[Value.ref 52, Value.ref 52, Value.ref 52], #[]⟩
noncomputable def o48 (P : Params) : Obj := ⟨Value.type "builtin_function_or_method", Option.none , Data.fields #[Value.builtin "object.__init_subclass__", Value.ref 52], #[]⟩
noncomputable def t2 (P : Params) : BT := (N (boot_o_0 P) (N (boot_o_1 P) (N (o34 P) (N (boot_o_7 P) (N (o6 P) (N (o22 P) L L) (N (o41 P) L L)) (N (o14 P) (N (o36 P) L L) L)) (N (o0 P) (N (o10 P) (N (o26 P) L L) (N (o45 P) L L)) (N (o18 P) (N (o37 P) L L) L))) (N (boot_o_5 P) (N (boot_o_9 P) (N (o8 P) (N (o24 P) L L) (N (o43 P) L L)) (N (o16 P) (N (o32 P) L L) L)) (N (o2 P) (N (o12 P) (N (o28 P) L L) (N (o47 P) L L)) (N (o20 P) (N (o39 P) L L) L)))) (N (boot_o_2 P) (N (boot_o_4 P) (N (boot_o_8 P) (N (o7 P) (N (o23 P) L L) (N (o42 P) L L)) (N (o15 P) (N (o31 P) L L) L)) (N (o35 P) (N (o11 P) (N (o27 P) L L) (N (o46 P) L L)) (N (o19 P) (N (o38 P) L L) L))) (N (boot_o_6 P) (N (boot_o_10 P) (N (o9 P) (N (o25 P) L L) (N (o44 P) L L)) (N (o17 P) (N (o33 P) L L) L)) (N (o3 P) (N (o13 P) (N (o29 P) L L) (N (o48 P) L L)) (N (o21 P) (N (o40 P) L L) L)))))
theorem r1 (w : World) : (fun os : OsState => PySem.W.Fast.tw10110043849684766642 PySem.W.Fast.tw14364793385576792824 pw w 11 (some (.ref 6)) 1 237 ⟨t1 w.params, 43, {}, ⟨[]⟩, {}, 224, os⟩ (piecesOf (sl 3 3) env0 (.body B0 env0) ⟨5, 0, 9, 28⟩ [topFrame ⟨0, 0, 0, 0⟩])) = fun os => some (Flow.next, ⟨t2 w.params, 55, {}, ⟨[]⟩, {}, 245, os⟩, (.body B0 env0), ⟨13, 0, 13, 7⟩) := by
  kernel_rfl
noncomputable def o49 (P : Params) : Obj := ⟨Value.type "dict", Option.none , Data.dict #[eS P "__name__" 165 (Value.str "threepress.matches" 240), eS P "__doc__" 166 Value.none, eS P "__package__" 167 Value.none, eS P "__loader__" 168 (Value.builtin "__main__.__loader__#opaque"), eS P "__spec__" 169 Value.none, eS P "__annotations__" 170 (Value.ref 6), eS P "__builtins__" 171 (Value.ref 4), eS P "__file__" 173 (Value.str "/claim/cut.py" 172), eS P "__cached__" 174 Value.none, eS P "_wall" 193 (Value.ref 21), eS P "PressError" 223 (Value.ref 39), eS P "BadArgument" 239 (Value.ref 52), eS P "NOWHERE" 244 (Value.int (-1) 243), eS P "PlaceRow" 301 (Value.ref 92)] 14, #[]⟩
noncomputable def o50 (P : Params) : Obj := ⟨Value.none, Option.none , Data.fields #[Value.int 1 0, Value.int 0 0, Value.ref 20, Value.int 5 0, Value.int 0 0, Value.ref 27, Value.int 10 0, Value.int 0 0, Value.ref 48, Value.int 14 0, Value.int 0 0, Value.ref 60], #[]⟩
noncomputable def o51 (P : Params) : Obj := ⟨Value.type "tuple", Option.none , Data.seq #[] 0, #[]⟩
noncomputable def o52 (P : Params) : Obj := ⟨Value.type "builtin_function_or_method", Option.none , Data.fields #[Value.builtin "type.__prepare__", Value.type "type"], #[]⟩
noncomputable def o53 (P : Params) : Obj := ⟨Value.type "dict", Option.none , Data.dict #[eS P "__module__" 252 (Value.str "threepress.matches" 240), eS P "__qualname__" 254 (Value.str "PlaceRow" 253), eS P "__firstlineno__" 256 (Value.int 14 255), eS P "__init__" 265 (Value.ref 68), eS P "key" 273 (Value.ref 75), eS P "put" 281 (Value.ref 82), eS P "newest" 289 (Value.ref 89), eS P "__static_attributes__" 294 (Value.ref 90)] 8, #[]⟩
noncomputable def o54 (P : Params) : Obj := ⟨Value.type "tuple", Option.none , Data.seq #[] 0, #[]⟩
noncomputable def o55 (P : Params) : Obj := ⟨Value.none, Option.none , Data.fields #[Value.int 16 0, Value.int 4 0, Value.ref 67, Value.int 24 0, Value.int 4 0, Value.ref 74, Value.int 27 0, Value.int 4 0, Value.ref 81, Value.int 30 0, Value.int 4 0, Value.ref 88], #[]⟩
noncomputable def o56 (P : Params) : Obj := ⟨Value.type "code", Option.none , Data.fields #[Value.str "PlaceRow" 247, Value.str "PlaceRow" 248, Value.str "/claim/cut.py" 249, Value.int 14 0, Value.int 0 0, Value.int 0 0, Value.int 0 0, Value.int 0 0, Value.ref 58, Value.bool false, Value.int 181 0, Value.ref 59, Value.none, Value.none, Value.none, Value.none, Value.int 250 0, Value.int 14 0, Value.str "/claim/cut.py" 251], #[]⟩
noncomputable def o57 (P : Params) : Obj := ⟨Value.type "frame", Option.none , Data.plain, #[some (Value.ref 60), some (Value.ref 3), some (Value.ref 57), Option.none , some (Value.str "threepress.matches" 240), Option.none , some (Value.ref 0)]⟩
noncomputable def o58 (P : Params) : Obj := ⟨Value.type "tuple", Option.none , Data.seq #[] 0, #[]⟩
noncomputable def o59 (P : Params) : Obj := ⟨Value.none, Option.none , Data.fields #[], #[]⟩
noncomputable def o60 (P : Params) : Obj := ⟨Value.type "tuple", Option.none , Data.seq #[Value.str "self" 260, Value.str "octets" 261, Value.str "size" 262] 0, #[]⟩
noncomputable def o61 (P : Params) : Obj := ⟨Value.type "tuple", Option.none , Data.seq #[] 0, #[]⟩
noncomputable def o62 (P : Params) : Obj := ⟨Value.none, Option.none , fD "__init__" "PlaceRow.__init__" (pM 6 0) 0 [] Value.none Value.none Value.none Value.none (Option.none ) Value.none Value.none 0, #[]⟩
noncomputable def o63 (P : Params) : Obj := ⟨Value.type "code", Option.none , Data.fields #[Value.str "__init__" 257, Value.str "PlaceRow.__init__" 258, Value.str "/claim/cut.py" 259, Value.int 16 0, Value.int 3 0, Value.int 0 0, Value.int 0 0, Value.int 3 0, Value.ref 62, Value.bool true, Value.int 181 0, Value.ref 63, Value.none, Value.ref 64, Value.ref 65, Value.ref 66, Value.int 263 0, Value.int 16 0, Value.str "/claim/cut.py" 264], #[]⟩
noncomputable def o64 (P : Params) : Obj := ⟨Value.type "function", Option.none , fD "__init__" "PlaceRow.__init__" (pM 6 0) 3 [] Value.none Value.none Value.none (Value.str "threepress.matches" 240) (Option.none ) (Value.ref 67) Value.none 0, #[]⟩
noncomputable def o65 (P : Params) : Obj := ⟨Value.type "tuple", Option.none , Data.seq #[] 0, #[]⟩
noncomputable def o66 (P : Params) : Obj := ⟨Value.none, Option.none , Data.fields #[], #[]⟩
noncomputable def o67 (P : Params) : Obj := ⟨Value.type "tuple", Option.none , Data.seq #[Value.str "self" 269, Value.str "place" 270] 0, #[]⟩
noncomputable def o68 (P : Params) : Obj := ⟨Value.type "tuple", Option.none , Data.seq #[] 0, #[]⟩
noncomputable def o69 (P : Params) : Obj := ⟨Value.none, Option.none , fD "key" "PlaceRow.key" (pM 6 1) 0 [] Value.none Value.none Value.none Value.none (Option.none ) Value.none Value.none 0, #[]⟩
noncomputable def o70 (P : Params) : Obj := ⟨Value.type "code", Option.none , Data.fields #[Value.str "key" 266, Value.str "PlaceRow.key" 267, Value.str "/claim/cut.py" 268, Value.int 24 0, Value.int 2 0, Value.int 0 0, Value.int 0 0, Value.int 3 0, Value.ref 69, Value.bool true, Value.int 181 0, Value.ref 70, Value.none, Value.ref 71, Value.ref 72, Value.ref 73, Value.int 271 0, Value.int 24 0, Value.str "/claim/cut.py" 272], #[]⟩
noncomputable def o71 (P : Params) : Obj := ⟨Value.type "function", Option.none , fD "key" "PlaceRow.key" (pM 6 1) 3 [] Value.none Value.none Value.none (Value.str "threepress.matches" 240) (Option.none ) (Value.ref 74) Value.none 0, #[]⟩
noncomputable def o72 (P : Params) : Obj := ⟨Value.type "tuple", Option.none , Data.seq #[] 0, #[]⟩
noncomputable def o73 (P : Params) : Obj := ⟨Value.none, Option.none , Data.fields #[], #[]⟩
noncomputable def o74 (P : Params) : Obj := ⟨Value.type "tuple", Option.none , Data.seq #[Value.str "self" 277, Value.str "place" 278] 0, #[]⟩
noncomputable def o75 (P : Params) : Obj := ⟨Value.type "tuple", Option.none , Data.seq #[] 0, #[]⟩
noncomputable def o76 (P : Params) : Obj := ⟨Value.none, Option.none , fD "put" "PlaceRow.put" (pM 6 2) 0 [] Value.none Value.none Value.none Value.none (Option.none ) Value.none Value.none 0, #[]⟩
noncomputable def o77 (P : Params) : Obj := ⟨Value.type "code", Option.none , Data.fields #[Value.str "put" 274, Value.str "PlaceRow.put" 275, Value.str "/claim/cut.py" 276, Value.int 27 0, Value.int 2 0, Value.int 0 0, Value.int 0 0, Value.int 3 0, Value.ref 76, Value.bool true, Value.int 181 0, Value.ref 77, Value.none, Value.ref 78, Value.ref 79, Value.ref 80, Value.int 279 0, Value.int 27 0, Value.str "/claim/cut.py" 280], #[]⟩
noncomputable def o78 (P : Params) : Obj := ⟨Value.type "function", Option.none , fD "put" "PlaceRow.put" (pM 6 2) 3 [] Value.none Value.none Value.none (Value.str "threepress.matches" 240) (Option.none ) (Value.ref 81) Value.none 0, #[]⟩
noncomputable def o79 (P : Params) : Obj := ⟨Value.type "tuple", Option.none , Data.seq #[] 0, #[]⟩
noncomputable def o80 (P : Params) : Obj := ⟨Value.none, Option.none , Data.fields #[], #[]⟩
noncomputable def o81 (P : Params) : Obj := ⟨Value.type "tuple", Option.none , Data.seq #[Value.str "self" 285, Value.str "place" 286] 0, #[]⟩
noncomputable def o82 (P : Params) : Obj := ⟨Value.type "tuple", Option.none , Data.seq #[] 0, #[]⟩
noncomputable def o83 (P : Params) : Obj := ⟨Value.none, Option.none , fD "newest" "PlaceRow.newest" (pM 6 3) 0 [] Value.none Value.none Value.none Value.none (Option.none ) Value.none Value.none 0, #[]⟩
noncomputable def o84 (P : Params) : Obj := ⟨Value.type "code", Option.none , Data.fields #[Value.str "newest" 282, Value.str "PlaceRow.newest" 283, Value.str "/claim/cut.py" 284, Value.int 30 0, Value.int 2 0, Value.int 0 0, Value.int 0 0, Value.int 3 0, Value.ref 83, Value.bool true, Value.int 181 0, Value.ref 84, Value.none, Value.ref 85, Value.ref 86, Value.ref 87, Value.int 287 0, Value.int 30 0, Value.str "/claim/cut.py" 288], #[]⟩
noncomputable def o85 (P : Params) : Obj := ⟨Value.type "function", Option.none , fD "newest" "PlaceRow.newest" (pM 6 3) 3 [] Value.none Value.none Value.none (Value.str "threepress.matches" 240) (Option.none ) (Value.ref 88) Value.none 0, #[]⟩
noncomputable def o86 (P : Params) : Obj := ⟨Value.type "tuple", Option.none , Data.seq #[Value.str "before" 290, Value.str "last" 291, Value.str "octets" 292, Value.str "size" 293] 0, #[]⟩
noncomputable def o87 (P : Params) : Obj := ⟨Value.type "dict", Option.none , Data.dict #[eS P "__module__" 252 (Value.str "threepress.matches" 240), eS P "__firstlineno__" 256 (Value.int 14 255), eS P "__init__" 265 (Value.ref 68), eS P "key" 273 (Value.ref 75), eS P "put" 281 (Value.ref 82), eS P "newest" 289 (Value.ref 89), eS P "__static_attributes__" 294 (Value.ref 90), eS P "__dict__" 296 (Value.ref 93), eS P "__weakref__" 298 (Value.ref 94), eS P "__doc__" 299 Value.none] 4, #[]⟩
noncomputable def o88 (P : Params) : Obj := ⟨Value.type "type", Option.none , Data.cls ⟨"PlaceRow", [Value.type "object"], [Value.ref 92, Value.type "object"], 91, "PlaceRow", true, [], [], false, Option.none , false⟩, #[Option.none , Option.none , some (Value.str "PlaceRow" 245), some (Value.str "PlaceRow" 253), some (Value.builtin "object.__new__"), some (Value.bool true)]⟩
noncomputable def o89 (P : Params) : Obj := ⟨Value.type "getset_descriptor", Option.none , Data.fields #[Value.str "__dict__" 295, Value.ref 92, Value.builtin "function.__dict__", Value.builtin "function.__dict__#set"], #[]⟩
noncomputable def o90 (P : Params) : Obj := ⟨Value.type "getset_descriptor", Option.none , Data.fields #[Value.str "__weakref__" 297, Value.ref 92, Value.builtin "ExceptionGroup.__weakref__", Value.none], #[]⟩
noncomputable def o91 (P : Params) : Obj := ⟨Value.type "super", Option.none , Data.fields #[Value.ref 92, Value.ref 92, Value.ref 92], #[]⟩
noncomputable def o92 (P : Params) : Obj := ⟨Value.type "builtin_function_or_method", Option.none , Data.fields #[Value.builtin "object.__init_subclass__", Value.ref 92], #[]⟩
noncomputable def t3 (P : Params) : BT := (N (boot_o_0 P) (N (boot_o_1 P) (N (o49 P) (N (boot_o_7 P) (N (o6 P) (N (o22 P) (N (o59 P) L L) (N (o91 P) L L)) (N (o41 P) (N (o75 P) L L) L)) (N (o14 P) (N (o36 P) (N (o67 P) L L) L) (N (o51 P) (N (o83 P) L L) L))) (N (o0 P) (N (o10 P) (N (o26 P) (N (o63 P) L L) L) (N (o45 P) (N (o79 P) L L) L)) (N (o18 P) (N (o37 P) (N (o71 P) L L) L) (N (o55 P) (N (o87 P) L L) L)))) (N (boot_o_5 P) (N (boot_o_9 P) (N (o8 P) (N (o24 P) (N (o61 P) L L) L) (N (o43 P) (N (o77 P) L L) L)) (N (o16 P) (N (o32 P) (N (o69 P) L L) L) (N (o53 P) (N (o85 P) L L) L))) (N (o2 P) (N (o12 P) (N (o28 P) (N (o65 P) L L) L) (N (o47 P) (N (o81 P) L L) L)) (N (o20 P) (N (o39 P) (N (o73 P) L L) L) (N (o57 P) (N (o89 P) L L) L))))) (N (boot_o_2 P) (N (boot_o_4 P) (N (boot_o_8 P) (N (o7 P) (N (o23 P) (N (o60 P) L L) (N (o92 P) L L)) (N (o42 P) (N (o76 P) L L) L)) (N (o15 P) (N (o31 P) (N (o68 P) L L) L) (N (o52 P) (N (o84 P) L L) L))) (N (o50 P) (N (o11 P) (N (o27 P) (N (o64 P) L L) L) (N (o46 P) (N (o80 P) L L) L)) (N (o19 P) (N (o38 P) (N (o72 P) L L) L) (N (o56 P) (N (o88 P) L L) L)))) (N (boot_o_6 P) (N (boot_o_10 P) (N (o9 P) (N (o25 P) (N (o62 P) L L) L) (N (o44 P) (N (o78 P) L L) L)) (N (o17 P) (N (o33 P) (N (o70 P) L L) L) (N (o54 P) (N (o86 P) L L) L))) (N (o3 P) (N (o13 P) (N (o29 P) (N (o66 P) L L) L) (N (o48 P) (N (o82 P) L L) L)) (N (o21 P) (N (o40 P) (N (o74 P) L L) L) (N (o58 P) (N (o90 P) L L) L))))))
theorem r2 (w : World) : (fun os : OsState => PySem.W.Fast.tw10110043849684766642 PySem.W.Fast.tw14364793385576792824 pw w 11 (some (.ref 6)) 1 323 ⟨t2 w.params, 55, {}, ⟨[]⟩, {}, 245, os⟩ (piecesOf (sl 6 1) env0 (.body B0 env0) ⟨13, 0, 13, 7⟩ [topFrame ⟨0, 0, 0, 0⟩])) = fun os => some (Flow.next, ⟨t3 w.params, 97, {}, ⟨[]⟩, {}, 302, os⟩, (.body B0 env0), ⟨14, 0, 31, 16⟩) := by
  kernel_rfl
noncomputable def o93 (P : Params) : Obj := ⟨Value.type "dict", Option.none , Data.dict #[eS P "__name__" 165 (Value.str "threepress.matches" 240), eS P "__doc__" 166 Value.none, eS P "__package__" 167 Value.none, eS P "__loader__" 168 (Value.builtin "__main__.__loader__#opaque"), eS P "__spec__" 169 Value.none, eS P "__annotations__" 170 (Value.ref 6), eS P "__builtins__" 171 (Value.ref 4), eS P "__file__" 173 (Value.str "/claim/cut.py" 172), eS P "__cached__" 174 Value.none, eS P "_wall" 193 (Value.ref 21), eS P "PressError" 223 (Value.ref 39), eS P "BadArgument" 239 (Value.ref 52), eS P "NOWHERE" 244 (Value.int (-1) 243), eS P "PlaceRow" 301 (Value.ref 92), eS P "Matcher" 429 (Value.ref 183)] 15, #[]⟩
noncomputable def o94 (P : Params) : Obj := ⟨Value.none, Option.none , Data.fields #[Value.int 1 0, Value.int 0 0, Value.ref 20, Value.int 5 0, Value.int 0 0, Value.ref 27, Value.int 10 0, Value.int 0 0, Value.ref 48, Value.int 14 0, Value.int 0 0, Value.ref 60, Value.int 32 0, Value.int 0 0, Value.ref 102], #[]⟩
noncomputable def o95 (P : Params) : Obj := ⟨Value.type "tuple", Option.none , Data.seq #[] 0, #[]⟩
noncomputable def o96 (P : Params) : Obj := ⟨Value.type "builtin_function_or_method", Option.none , Data.fields #[Value.builtin "type.__prepare__", Value.type "type"], #[]⟩
noncomputable def o97 (P : Params) : Obj := ⟨Value.type "dict", Option.none , Data.dict #[eS P "__module__" 309 (Value.str "threepress.matches" 240), eS P "__qualname__" 311 (Value.str "Matcher" 310), eS P "__firstlineno__" 313 (Value.int 32 312), eS P "__init__" 324 (Value.ref 110), eS P "put" 332 (Value.ref 117), eS P "enter" 340 (Value.ref 124), eS P "put_all" 348 (Value.ref 131), eS P "limit" 357 (Value.ref 138), eS P "length" 367 (Value.ref 145), eS P "alike" 379 (Value.ref 152), eS P "is_near" 388 (Value.ref 159), eS P "repeat" 398 (Value.ref 166), eS P "every" 407 (Value.ref 173), eS P "best" 416 (Value.ref 180), eS P "__static_attributes__" 422 (Value.ref 181)] 15, #[]⟩
noncomputable def o98 (P : Params) : Obj := ⟨Value.type "tuple", Option.none , Data.seq #[] 0, #[]⟩
noncomputable def o99 (P : Params) : Obj := ⟨Value.none, Option.none , Data.fields #[Value.int 34 0, Value.int 4 0, Value.ref 109, Value.int 47 0, Value.int 4 0, Value.ref 116, Value.int 50 0, Value.int 4 0, Value.ref 123, Value.int 53 0, Value.int 4 0, Value.ref 130, Value.int 56 0, Value.int 4 0, Value.ref 137, Value.int 59 0, Value.int 4 0, Value.ref 144, Value.int 64 0, Value.int 4 0, Value.ref 151, Value.int 70 0, Value.int 4 0, Value.ref 158, Value.int 73 0, Value.int 4 0, Value.ref 165, Value.int 78 0, Value.int 4 0, Value.ref 172, Value.int 81 0, Value.int 4 0, Value.ref 179], #[]⟩
noncomputable def o100 (P : Params) : Obj := ⟨Value.type "code", Option.none , Data.fields #[Value.str "Matcher" 304, Value.str "Matcher" 305, Value.str "/claim/cut.py" 306, Value.int 32 0, Value.int 0 0, Value.int 0 0, Value.int 0 0, Value.int 0 0, Value.ref 100, Value.bool false, Value.int 181 0, Value.ref 101, Value.none, Value.none, Value.none, Value.none, Value.int 307 0, Value.int 32 0, Value.str "/claim/cut.py" 308], #[]⟩
noncomputable def o101 (P : Params) : Obj := ⟨Value.type "frame", Option.none , Data.plain, #[some (Value.ref 102), some (Value.ref 3), some (Value.ref 99), Option.none , some (Value.str "threepress.matches" 240), Option.none , some (Value.ref 0)]⟩
noncomputable def o102 (P : Params) : Obj := ⟨Value.type "tuple", Option.none , Data.seq #[] 0, #[]⟩
noncomputable def o103 (P : Params) : Obj := ⟨Value.none, Option.none , Data.fields #[], #[]⟩
noncomputable def o104 (P : Params) : Obj := ⟨Value.type "tuple", Option.none , Data.seq #[Value.str "self" 317, Value.str "octets" 318, Value.str "least" 319, Value.str "window" 320, Value.str "chain" 321] 0, #[]⟩
noncomputable def o105 (P : Params) : Obj := ⟨Value.type "tuple", Option.none , Data.seq #[] 0, #[]⟩
noncomputable def o106 (P : Params) : Obj := ⟨Value.none, Option.none , fD "__init__" "Matcher.__init__" (pM 7 0) 0 [] Value.none Value.none Value.none Value.none (Option.none ) Value.none Value.none 0, #[]⟩
noncomputable def o107 (P : Params) : Obj := ⟨Value.type "code", Option.none , Data.fields #[Value.str "__init__" 314, Value.str "Matcher.__init__" 315, Value.str "/claim/cut.py" 316, Value.int 34 0, Value.int 5 0, Value.int 0 0, Value.int 0 0, Value.int 3 0, Value.ref 104, Value.bool true, Value.int 181 0, Value.ref 105, Value.none, Value.ref 106, Value.ref 107, Value.ref 108, Value.int 322 0, Value.int 34 0, Value.str "/claim/cut.py" 323], #[]⟩
noncomputable def o108 (P : Params) : Obj := ⟨Value.type "function", Option.none , fD "__init__" "Matcher.__init__" (pM 7 0) 3 [] Value.none Value.none Value.none (Value.str "threepress.matches" 240) (Option.none ) (Value.ref 109) Value.none 0, #[]⟩
noncomputable def o109 (P : Params) : Obj := ⟨Value.type "tuple", Option.none , Data.seq #[] 0, #[]⟩
noncomputable def o110 (P : Params) : Obj := ⟨Value.none, Option.none , Data.fields #[], #[]⟩
noncomputable def o111 (P : Params) : Obj := ⟨Value.type "tuple", Option.none , Data.seq #[Value.str "self" 328, Value.str "place" 329] 0, #[]⟩
noncomputable def o112 (P : Params) : Obj := ⟨Value.type "tuple", Option.none , Data.seq #[] 0, #[]⟩
noncomputable def o113 (P : Params) : Obj := ⟨Value.none, Option.none , fD "put" "Matcher.put" (pM 7 1) 0 [] Value.none Value.none Value.none Value.none (Option.none ) Value.none Value.none 0, #[]⟩
noncomputable def o114 (P : Params) : Obj := ⟨Value.type "code", Option.none , Data.fields #[Value.str "put" 325, Value.str "Matcher.put" 326, Value.str "/claim/cut.py" 327, Value.int 47 0, Value.int 2 0, Value.int 0 0, Value.int 0 0, Value.int 3 0, Value.ref 111, Value.bool true, Value.int 181 0, Value.ref 112, Value.none, Value.ref 113, Value.ref 114, Value.ref 115, Value.int 330 0, Value.int 47 0, Value.str "/claim/cut.py" 331], #[]⟩
noncomputable def o115 (P : Params) : Obj := ⟨Value.type "function", Option.none , fD "put" "Matcher.put" (pM 7 1) 3 [] Value.none Value.none Value.none (Value.str "threepress.matches" 240) (Option.none ) (Value.ref 116) Value.none 0, #[]⟩
noncomputable def o116 (P : Params) : Obj := ⟨Value.type "tuple", Option.none , Data.seq #[] 0, #[]⟩
noncomputable def o117 (P : Params) : Obj := ⟨Value.none, Option.none , Data.fields #[], #[]⟩
noncomputable def o118 (P : Params) : Obj := ⟨Value.type "tuple", Option.none , Data.seq #[Value.str "self" 336, Value.str "place" 337] 0, #[]⟩
noncomputable def o119 (P : Params) : Obj := ⟨Value.type "tuple", Option.none , Data.seq #[] 0, #[]⟩
noncomputable def o120 (P : Params) : Obj := ⟨Value.none, Option.none , fD "enter" "Matcher.enter" (pM 7 2) 0 [] Value.none Value.none Value.none Value.none (Option.none ) Value.none Value.none 0, #[]⟩
noncomputable def o121 (P : Params) : Obj := ⟨Value.type "code", Option.none , Data.fields #[Value.str "enter" 333, Value.str "Matcher.enter" 334, Value.str "/claim/cut.py" 335, Value.int 50 0, Value.int 2 0, Value.int 0 0, Value.int 0 0, Value.int 3 0, Value.ref 118, Value.bool true, Value.int 181 0, Value.ref 119, Value.none, Value.ref 120, Value.ref 121, Value.ref 122, Value.int 338 0, Value.int 50 0, Value.str "/claim/cut.py" 339], #[]⟩
noncomputable def o122 (P : Params) : Obj := ⟨Value.type "function", Option.none , fD "enter" "Matcher.enter" (pM 7 2) 3 [] Value.none Value.none Value.none (Value.str "threepress.matches" 240) (Option.none ) (Value.ref 123) Value.none 0, #[]⟩
noncomputable def o123 (P : Params) : Obj := ⟨Value.type "tuple", Option.none , Data.seq #[] 0, #[]⟩
noncomputable def o124 (P : Params) : Obj := ⟨Value.none, Option.none , Data.fields #[], #[]⟩
noncomputable def o125 (P : Params) : Obj := ⟨Value.type "tuple", Option.none , Data.seq #[Value.str "self" 344, Value.str "end" 345] 0, #[]⟩
noncomputable def o126 (P : Params) : Obj := ⟨Value.type "tuple", Option.none , Data.seq #[] 0, #[]⟩
noncomputable def o127 (P : Params) : Obj := ⟨Value.none, Option.none , fD "put_all" "Matcher.put_all" (pM 7 3) 0 [] Value.none Value.none Value.none Value.none (Option.none ) Value.none Value.none 0, #[]⟩
noncomputable def o128 (P : Params) : Obj := ⟨Value.type "code", Option.none , Data.fields #[Value.str "put_all" 341, Value.str "Matcher.put_all" 342, Value.str "/claim/cut.py" 343, Value.int 53 0, Value.int 2 0, Value.int 0 0, Value.int 0 0, Value.int 3 0, Value.ref 125, Value.bool true, Value.int 181 0, Value.ref 126, Value.none, Value.ref 127, Value.ref 128, Value.ref 129, Value.int 346 0, Value.int 53 0, Value.str "/claim/cut.py" 347], #[]⟩
noncomputable def o129 (P : Params) : Obj := ⟨Value.type "function", Option.none , fD "put_all" "Matcher.put_all" (pM 7 3) 3 [] Value.none Value.none Value.none (Value.str "threepress.matches" 240) (Option.none ) (Value.ref 130) Value.none 0, #[]⟩
noncomputable def o130 (P : Params) : Obj := ⟨Value.type "tuple", Option.none , Data.seq #[] 0, #[]⟩
noncomputable def o131 (P : Params) : Obj := ⟨Value.none, Option.none , Data.fields #[], #[]⟩
noncomputable def o132 (P : Params) : Obj := ⟨Value.type "tuple", Option.none , Data.seq #[Value.str "self" 352, Value.str "place" 353, Value.str "most" 354] 0, #[]⟩
noncomputable def o133 (P : Params) : Obj := ⟨Value.type "tuple", Option.none , Data.seq #[] 0, #[]⟩
noncomputable def o134 (P : Params) : Obj := ⟨Value.none, Option.none , fD "limit" "Matcher.limit" (pM 7 4) 0 [] Value.none Value.none Value.none Value.none (Option.none ) Value.none Value.none 0, #[]⟩
noncomputable def o135 (P : Params) : Obj := ⟨Value.type "code", Option.none , Data.fields #[Value.str "limit" 349, Value.str "Matcher.limit" 350, Value.str "/claim/cut.py" 351, Value.int 56 0, Value.int 3 0, Value.int 0 0, Value.int 0 0, Value.int 3 0, Value.ref 132, Value.bool true, Value.int 181 0, Value.ref 133, Value.none, Value.ref 134, Value.ref 135, Value.ref 136, Value.int 355 0, Value.int 56 0, Value.str "/claim/cut.py" 356], #[]⟩
noncomputable def o136 (P : Params) : Obj := ⟨Value.type "function", Option.none , fD "limit" "Matcher.limit" (pM 7 4) 3 [] Value.none Value.none Value.none (Value.str "threepress.matches" 240) (Option.none ) (Value.ref 137) Value.none 0, #[]⟩
noncomputable def o137 (P : Params) : Obj := ⟨Value.type "tuple", Option.none , Data.seq #[] 0, #[]⟩
noncomputable def o138 (P : Params) : Obj := ⟨Value.none, Option.none , Data.fields #[], #[]⟩
noncomputable def o139 (P : Params) : Obj := ⟨Value.type "tuple", Option.none , Data.seq #[Value.str "self" 361, Value.str "place" 362, Value.str "other" 363, Value.str "most" 364] 0, #[]⟩
noncomputable def o140 (P : Params) : Obj := ⟨Value.type "tuple", Option.none , Data.seq #[] 0, #[]⟩
noncomputable def o141 (P : Params) : Obj := ⟨Value.none, Option.none , fD "length" "Matcher.length" (pM 7 5) 0 [] Value.none Value.none Value.none Value.none (Option.none ) Value.none Value.none 0, #[]⟩
noncomputable def o142 (P : Params) : Obj := ⟨Value.type "code", Option.none , Data.fields #[Value.str "length" 358, Value.str "Matcher.length" 359, Value.str "/claim/cut.py" 360, Value.int 59 0, Value.int 4 0, Value.int 0 0, Value.int 0 0, Value.int 3 0, Value.ref 139, Value.bool true, Value.int 181 0, Value.ref 140, Value.none, Value.ref 141, Value.ref 142, Value.ref 143, Value.int 365 0, Value.int 59 0, Value.str "/claim/cut.py" 366], #[]⟩
noncomputable def o143 (P : Params) : Obj := ⟨Value.type "function", Option.none , fD "length" "Matcher.length" (pM 7 5) 3 [] Value.none Value.none Value.none (Value.str "threepress.matches" 240) (Option.none ) (Value.ref 144) Value.none 0, #[]⟩
noncomputable def o144 (P : Params) : Obj := ⟨Value.type "tuple", Option.none , Data.seq #[] 0, #[]⟩
noncomputable def o145 (P : Params) : Obj := ⟨Value.none, Option.none , Data.fields #[], #[]⟩
noncomputable def o146 (P : Params) : Obj := ⟨Value.type "tuple", Option.none , Data.seq #[Value.str "self" 371, Value.str "place" 372, Value.str "other" 373, Value.str "known" 374, Value.str "limit" 375, Value.str "octets" 376] 0, #[]⟩
noncomputable def o147 (P : Params) : Obj := ⟨Value.type "tuple", Option.none , Data.seq #[] 0, #[]⟩
noncomputable def o148 (P : Params) : Obj := ⟨Value.none, Option.none , fD "alike" "Matcher.alike" (pM 7 6) 0 [] Value.none Value.none Value.none Value.none (Option.none ) Value.none Value.none 0, #[]⟩
noncomputable def o149 (P : Params) : Obj := ⟨Value.type "code", Option.none , Data.fields #[Value.str "alike" 368, Value.str "Matcher.alike" 369, Value.str "/claim/cut.py" 370, Value.int 64 0, Value.int 5 0, Value.int 0 0, Value.int 0 0, Value.int 3 0, Value.ref 146, Value.bool true, Value.int 181 0, Value.ref 147, Value.none, Value.ref 148, Value.ref 149, Value.ref 150, Value.int 377 0, Value.int 64 0, Value.str "/claim/cut.py" 378], #[]⟩
noncomputable def o150 (P : Params) : Obj := ⟨Value.type "function", Option.none , fD "alike" "Matcher.alike" (pM 7 6) 3 [] Value.none Value.none Value.none (Value.str "threepress.matches" 240) (Option.none ) (Value.ref 151) Value.none 0, #[]⟩
noncomputable def o151 (P : Params) : Obj := ⟨Value.type "tuple", Option.none , Data.seq #[] 0, #[]⟩
noncomputable def o152 (P : Params) : Obj := ⟨Value.none, Option.none , Data.fields #[], #[]⟩
noncomputable def o153 (P : Params) : Obj := ⟨Value.type "tuple", Option.none , Data.seq #[Value.str "self" 383, Value.str "place" 384, Value.str "other" 385] 0, #[]⟩
noncomputable def o154 (P : Params) : Obj := ⟨Value.type "tuple", Option.none , Data.seq #[] 0, #[]⟩
noncomputable def o155 (P : Params) : Obj := ⟨Value.none, Option.none , fD "is_near" "Matcher.is_near" (pM 7 7) 0 [] Value.none Value.none Value.none Value.none (Option.none ) Value.none Value.none 0, #[]⟩
noncomputable def o156 (P : Params) : Obj := ⟨Value.type "code", Option.none , Data.fields #[Value.str "is_near" 380, Value.str "Matcher.is_near" 381, Value.str "/claim/cut.py" 382, Value.int 70 0, Value.int 3 0, Value.int 0 0, Value.int 0 0, Value.int 3 0, Value.ref 153, Value.bool true, Value.int 181 0, Value.ref 154, Value.none, Value.ref 155, Value.ref 156, Value.ref 157, Value.int 386 0, Value.int 70 0, Value.str "/claim/cut.py" 387], #[]⟩
noncomputable def o157 (P : Params) : Obj := ⟨Value.type "function", Option.none , fD "is_near" "Matcher.is_near" (pM 7 7) 3 [] Value.none Value.none Value.none (Value.str "threepress.matches" 240) (Option.none ) (Value.ref 158) Value.none 0, #[]⟩
noncomputable def o158 (P : Params) : Obj := ⟨Value.type "tuple", Option.none , Data.seq #[] 0, #[]⟩
noncomputable def o159 (P : Params) : Obj := ⟨Value.none, Option.none , Data.fields #[], #[]⟩
noncomputable def o160 (P : Params) : Obj := ⟨Value.type "tuple", Option.none , Data.seq #[Value.str "self" 392, Value.str "place" 393, Value.str "distance" 394, Value.str "most" 395] 0, #[]⟩
noncomputable def o161 (P : Params) : Obj := ⟨Value.type "tuple", Option.none , Data.seq #[] 0, #[]⟩
noncomputable def o162 (P : Params) : Obj := ⟨Value.none, Option.none , fD "repeat" "Matcher.repeat" (pM 7 8) 0 [] Value.none Value.none Value.none Value.none (Option.none ) Value.none Value.none 0, #[]⟩
noncomputable def o163 (P : Params) : Obj := ⟨Value.type "code", Option.none , Data.fields #[Value.str "repeat" 389, Value.str "Matcher.repeat" 390, Value.str "/claim/cut.py" 391, Value.int 73 0, Value.int 4 0, Value.int 0 0, Value.int 0 0, Value.int 3 0, Value.ref 160, Value.bool true, Value.int 181 0, Value.ref 161, Value.none, Value.ref 162, Value.ref 163, Value.ref 164, Value.int 396 0, Value.int 73 0, Value.str "/claim/cut.py" 397], #[]⟩
noncomputable def o164 (P : Params) : Obj := ⟨Value.type "function", Option.none , fD "repeat" "Matcher.repeat" (pM 7 8) 3 [] Value.none Value.none Value.none (Value.str "threepress.matches" 240) (Option.none ) (Value.ref 165) Value.none 0, #[]⟩
noncomputable def o165 (P : Params) : Obj := ⟨Value.type "tuple", Option.none , Data.seq #[] 0, #[]⟩
noncomputable def o166 (P : Params) : Obj := ⟨Value.none, Option.none , Data.fields #[], #[]⟩
noncomputable def o167 (P : Params) : Obj := ⟨Value.type "tuple", Option.none , Data.seq #[Value.str "self" 402, Value.str "place" 403, Value.str "most" 404] 0, #[]⟩
noncomputable def o168 (P : Params) : Obj := ⟨Value.type "tuple", Option.none , Data.seq #[] 0, #[]⟩
noncomputable def o169 (P : Params) : Obj := ⟨Value.none, Option.none , fD "every" "Matcher.every" (pM 7 9) 0 [] Value.none Value.none Value.none Value.none (Option.none ) Value.none Value.none 0, #[]⟩
noncomputable def o170 (P : Params) : Obj := ⟨Value.type "code", Option.none , Data.fields #[Value.str "every" 399, Value.str "Matcher.every" 400, Value.str "/claim/cut.py" 401, Value.int 78 0, Value.int 3 0, Value.int 0 0, Value.int 0 0, Value.int 3 0, Value.ref 167, Value.bool true, Value.int 181 0, Value.ref 168, Value.none, Value.ref 169, Value.ref 170, Value.ref 171, Value.int 405 0, Value.int 78 0, Value.str "/claim/cut.py" 406], #[]⟩
noncomputable def o171 (P : Params) : Obj := ⟨Value.type "function", Option.none , fD "every" "Matcher.every" (pM 7 9) 3 [] Value.none Value.none Value.none (Value.str "threepress.matches" 240) (Option.none ) (Value.ref 172) Value.none 0, #[]⟩
noncomputable def o172 (P : Params) : Obj := ⟨Value.type "tuple", Option.none , Data.seq #[] 0, #[]⟩
noncomputable def o173 (P : Params) : Obj := ⟨Value.none, Option.none , Data.fields #[], #[]⟩
noncomputable def o174 (P : Params) : Obj := ⟨Value.type "tuple", Option.none , Data.seq #[Value.str "self" 411, Value.str "place" 412, Value.str "most" 413] 0, #[]⟩
noncomputable def o175 (P : Params) : Obj := ⟨Value.type "tuple", Option.none , Data.seq #[] 0, #[]⟩
noncomputable def o176 (P : Params) : Obj := ⟨Value.none, Option.none , fD "best" "Matcher.best" (pM 7 10) 0 [] Value.none Value.none Value.none Value.none (Option.none ) Value.none Value.none 0, #[]⟩
noncomputable def o177 (P : Params) : Obj := ⟨Value.type "code", Option.none , Data.fields #[Value.str "best" 408, Value.str "Matcher.best" 409, Value.str "/claim/cut.py" 410, Value.int 81 0, Value.int 3 0, Value.int 0 0, Value.int 0 0, Value.int 3 0, Value.ref 174, Value.bool true, Value.int 181 0, Value.ref 175, Value.none, Value.ref 176, Value.ref 177, Value.ref 178, Value.int 414 0, Value.int 81 0, Value.str "/claim/cut.py" 415], #[]⟩
noncomputable def o178 (P : Params) : Obj := ⟨Value.type "function", Option.none , fD "best" "Matcher.best" (pM 7 10) 3 [] Value.none Value.none Value.none (Value.str "threepress.matches" 240) (Option.none ) (Value.ref 179) Value.none 0, #[]⟩
noncomputable def o179 (P : Params) : Obj := ⟨Value.type "tuple", Option.none , Data.seq #[Value.str "ahead" 417, Value.str "chain" 418, Value.str "least" 419, Value.str "octets" 420, Value.str "window" 421] 0, #[]⟩
noncomputable def o180 (P : Params) : Obj := ⟨Value.type "dict", Option.none , Data.dict #[eS P "__module__" 309 (Value.str "threepress.matches" 240), eS P "__firstlineno__" 313 (Value.int 32 312), eS P "__init__" 324 (Value.ref 110), eS P "put" 332 (Value.ref 117), eS P "enter" 340 (Value.ref 124), eS P "put_all" 348 (Value.ref 131), eS P "limit" 357 (Value.ref 138), eS P "length" 367 (Value.ref 145), eS P "alike" 379 (Value.ref 152), eS P "is_near" 388 (Value.ref 159), eS P "repeat" 398 (Value.ref 166), eS P "every" 407 (Value.ref 173), eS P "best" 416 (Value.ref 180), eS P "__static_attributes__" 422 (Value.ref 181), eS P "__dict__" 424 (Value.ref 184), eS P "__weakref__" 426 (Value.ref 185), eS P "__doc__" 427 Value.none] 4, #[]⟩
noncomputable def o181 (P : Params) : Obj := ⟨Value.type "type", Option.none , Data.cls ⟨"Matcher", [Value.type "object"], [Value.ref 183, Value.type "object"], 182, "Matcher", true, [], [], false, Option.none , false⟩, #[Option.none , Option.none , some (Value.str "Matcher" 302), some (Value.str "Matcher" 310), some (Value.builtin "object.__new__"), some (Value.bool true)]⟩
noncomputable def o182 (P : Params) : Obj := ⟨Value.type "getset_descriptor", Option.none , Data.fields #[Value.str "__dict__" 423, Value.ref 183, Value.builtin "function.__dict__", Value.builtin "function.__dict__#set"], #[]⟩
noncomputable def o183 (P : Params) : Obj := ⟨Value.type "getset_descriptor", Option.none , Data.fields #[Value.str "__weakref__" 425, Value.ref 183, Value.builtin "ExceptionGroup.__weakref__", Value.none], #[]⟩
noncomputable def o184 (P : Params) : Obj := ⟨Value.type "super", Option.none , Data.fields #[Value.ref 183, Value.ref 183, Value.ref 183], #[]⟩
noncomputable def o185 (P : Params) : Obj := ⟨Value.type "builtin_function_or_method", Option.none , Data.fields #[Value.builtin "object.__init_subclass__", Value.ref 183], #[]⟩
noncomputable def t4 (P : Params) : BT := (N (boot_o_0 P) (N (boot_o_1 P) (N (o93 P) (N (boot_o_7 P) (N (o6 P) (N (o22 P) (N (o59 P) (N (o125 P) L L) L) (N (o91 P) (N (o157 P) L L) L)) (N (o41 P) (N (o75 P) (N (o141 P) L L) L) (N (o109 P) (N (o173 P) L L) L))) (N (o14 P) (N (o36 P) (N (o67 P) (N (o133 P) L L) L) (N (o101 P) (N (o165 P) L L) L)) (N (o51 P) (N (o83 P) (N (o149 P) L L) L) (N (o117 P) (N (o181 P) L L) L)))) (N (o0 P) (N (o10 P) (N (o26 P) (N (o63 P) (N (o129 P) L L) L) (N (o97 P) (N (o161 P) L L) L)) (N (o45 P) (N (o79 P) (N (o145 P) L L) L) (N (o113 P) (N (o177 P) L L) L))) (N (o18 P) (N (o37 P) (N (o71 P) (N (o137 P) L L) L) (N (o105 P) (N (o169 P) L L) L)) (N (o55 P) (N (o87 P) (N (o153 P) L L) L) (N (o121 P) (N (o185 P) L L) L))))) (N (boot_o_5 P) (N (boot_o_9 P) (N (o8 P) (N (o24 P) (N (o61 P) (N (o127 P) L L) L) (N (o95 P) (N (o159 P) L L) L)) (N (o43 P) (N (o77 P) (N (o143 P) L L) L) (N (o111 P) (N (o175 P) L L) L))) (N (o16 P) (N (o32 P) (N (o69 P) (N (o135 P) L L) L) (N (o103 P) (N (o167 P) L L) L)) (N (o53 P) (N (o85 P) (N (o151 P) L L) L) (N (o119 P) (N (o183 P) L L) L)))) (N (o2 P) (N (o12 P) (N (o28 P) (N (o65 P) (N (o131 P) L L) L) (N (o99 P) (N (o163 P) L L) L)) (N (o47 P) (N (o81 P) (N (o147 P) L L) L) (N (o115 P) (N (o179 P) L L) L))) (N (o20 P) (N (o39 P) (N (o73 P) (N (o139 P) L L) L) (N (o107 P) (N (o171 P) L L) L)) (N (o57 P) (N (o89 P) (N (o155 P) L L) L) (N (o123 P) L L)))))) (N (boot_o_2 P) (N (boot_o_4 P) (N (boot_o_8 P) (N (o7 P) (N (o23 P) (N (o60 P) (N (o126 P) L L) L) (N (o92 P) (N (o158 P) L L) L)) (N (o42 P) (N (o76 P) (N (o142 P) L L) L) (N (o110 P) (N (o174 P) L L) L))) (N (o15 P) (N (o31 P) (N (o68 P) (N (o134 P) L L) L) (N (o102 P) (N (o166 P) L L) L)) (N (o52 P) (N (o84 P) (N (o150 P) L L) L) (N (o118 P) (N (o182 P) L L) L)))) (N (o94 P) (N (o11 P) (N (o27 P) (N (o64 P) (N (o130 P) L L) L) (N (o98 P) (N (o162 P) L L) L)) (N (o46 P) (N (o80 P) (N (o146 P) L L) L) (N (o114 P) (N (o178 P) L L) L))) (N (o19 P) (N (o38 P) (N (o72 P) (N (o138 P) L L) L) (N (o106 P) (N (o170 P) L L) L)) (N (o56 P) (N (o88 P) (N (o154 P) L L) L) (N (o122 P) L L))))) (N (boot_o_6 P) (N (boot_o_10 P) (N (o9 P) (N (o25 P) (N (o62 P) (N (o128 P) L L) L) (N (o96 P) (N (o160 P) L L) L)) (N (o44 P) (N (o78 P) (N (o144 P) L L) L) (N (o112 P) (N (o176 P) L L) L))) (N (o17 P) (N (o33 P) (N (o70 P) (N (o136 P) L L) L) (N (o104 P) (N (o168 P) L L) L)) (N (o54 P) (N (o86 P) (N (o152 P) L L) L) (N (o120 P) (N (o184 P) L L) L)))) (N (o3 P) (N (o13 P) (N (o29 P) (N (o66 P) (N (o132 P) L L) L) (N (o100 P) (N (o164 P) L L) L)) (N (o48 P) (N (o82 P) (N (o148 P) L L) L) (N (o116 P) (N (o180 P) L L) L))) (N (o21 P) (N (o40 P) (N (o74 P) (N (o140 P) L L) L) (N (o108 P) (N (o172 P) L L) L)) (N (o58 P) (N (o90 P) (N (o156 P) L L) L) (N (o124 P) L L)))))))
theorem r3 (w : World) : (fun os : OsState => PySem.W.Fast.tw10110043849684766642 PySem.W.Fast.tw14364793385576792824 pw w 11 (some (.ref 6)) 1 562 ⟨t3 w.params, 97, {}, ⟨[]⟩, {}, 302, os⟩ (piecesOf (sl 7 1) env0 (.body B0 env0) ⟨14, 0, 31, 16⟩ [topFrame ⟨0, 0, 0, 0⟩])) = fun os => some (Flow.next, ⟨t4 w.params, 188, {}, ⟨[]⟩, {}, 430, os⟩, (.body B0 env0), ⟨32, 0, 82, 16⟩) := by
  kernel_rfl
noncomputable def o186 (P : Params) : Obj := ⟨Value.type "dict", Option.none , Data.dict #[eS P "__name__" 165 (Value.str "threepress.matches" 240), eS P "__doc__" 166 Value.none, eS P "__package__" 167 Value.none, eS P "__loader__" 168 (Value.builtin "__main__.__loader__#opaque"), eS P "__spec__" 169 Value.none, eS P "__annotations__" 170 (Value.ref 6), eS P "__builtins__" 171 (Value.ref 4), eS P "__file__" 173 (Value.str "/claim/cut.py" 172), eS P "__cached__" 174 Value.none, eS P "_wall" 193 (Value.ref 21), eS P "PressError" 223 (Value.ref 39), eS P "BadArgument" 239 (Value.ref 52), eS P "NOWHERE" 244 (Value.int (-1) 243), eS P "PlaceRow" 301 (Value.ref 92), eS P "Matcher" 429 (Value.ref 183), eS P "Finder" 485 (Value.ref 226)] 16, #[]⟩
noncomputable def o187 (P : Params) : Obj := ⟨Value.none, Option.none , Data.fields #[Value.int 1 0, Value.int 0 0, Value.ref 20, Value.int 5 0, Value.int 0 0, Value.ref 27, Value.int 10 0, Value.int 0 0, Value.ref 48, Value.int 14 0, Value.int 0 0, Value.ref 60, Value.int 32 0, Value.int 0 0, Value.ref 102, Value.int 83 0, Value.int 0 0, Value.ref 193], #[]⟩
noncomputable def o188 (P : Params) : Obj := ⟨Value.type "type", Option.none , Data.cls ⟨"Matcher", [Value.type "object"], [Value.ref 183, Value.type "object"], 182, "Matcher", true, [], [Value.ref 226], false, Option.none , false⟩, #[Option.none , Option.none , some (Value.str "Matcher" 302), some (Value.str "Matcher" 310), some (Value.builtin "object.__new__"), some (Value.bool true)]⟩
noncomputable def o189 (P : Params) : Obj := ⟨Value.type "tuple", Option.none , Data.seq #[Value.ref 183] 0, #[]⟩
noncomputable def o190 (P : Params) : Obj := ⟨Value.type "builtin_function_or_method", Option.none , Data.fields #[Value.builtin "type.__prepare__", Value.type "type"], #[]⟩
noncomputable def o191 (P : Params) : Obj := ⟨Value.type "dict", Option.none , Data.dict #[eS P "__module__" 437 (Value.str "threepress.matches" 240), eS P "__qualname__" 439 (Value.str "Finder" 438), eS P "__firstlineno__" 441 (Value.int 83 440), eS P "__init__" 455 (Value.ref 202), eS P "enter" 463 (Value.ref 209), eS P "candidates" 471 (Value.ref 216), eS P "every" 480 (Value.ref 223), eS P "__static_attributes__" 482 (Value.ref 224)] 8, #[]⟩
noncomputable def o192 (P : Params) : Obj := ⟨Value.type "tuple", Option.none , Data.seq #[] 0, #[]⟩
noncomputable def o193 (P : Params) : Obj := ⟨Value.none, Option.none , Data.fields #[Value.int 85 0, Value.int 4 0, Value.ref 201, Value.int 89 0, Value.int 4 0, Value.ref 208, Value.int 92 0, Value.int 4 0, Value.ref 215, Value.int 95 0, Value.int 4 0, Value.ref 222], #[]⟩
noncomputable def o194 (P : Params) : Obj := ⟨Value.type "code", Option.none , Data.fields #[Value.str "Finder" 432, Value.str "Finder" 433, Value.str "/claim/cut.py" 434, Value.int 83 0, Value.int 0 0, Value.int 0 0, Value.int 0 0, Value.int 0 0, Value.ref 191, Value.bool false, Value.int 181 0, Value.ref 192, Value.none, Value.none, Value.none, Value.none, Value.int 435 0, Value.int 83 0, Value.str "/claim/cut.py" 436], #[]⟩
noncomputable def o195 (P : Params) : Obj := ⟨Value.type "frame", Option.none , Data.plain, #[some (Value.ref 193), some (Value.ref 3), some (Value.ref 190), Option.none , some (Value.str "threepress.matches" 240), Option.none , some (Value.ref 0)]⟩
noncomputable def o196 (P : Params) : Obj := ⟨Value.type "tuple", Option.none , Data.seq #[Value.int 3 442, Value.int 32768 443, Value.int 32 444] 0, #[]⟩
noncomputable def o197 (P : Params) : Obj := ⟨Value.type "tuple", Option.none , Data.seq #[] 0, #[]⟩
noncomputable def o198 (P : Params) : Obj := ⟨Value.none, Option.none , Data.fields #[], #[]⟩
noncomputable def o199 (P : Params) : Obj := ⟨Value.type "tuple", Option.none , Data.seq #[Value.str "self" 448, Value.str "octets" 449, Value.str "least" 450, Value.str "window" 451, Value.str "chain" 452] 0, #[]⟩
noncomputable def o200 (P : Params) : Obj := ⟨Value.type "tuple", Option.none , Data.seq #[] 0, #[]⟩
noncomputable def o201 (P : Params) : Obj := ⟨Value.none, Option.none , fD "__init__" "Finder.__init__" (pM 8 0) 0 [] Value.none Value.none Value.none Value.none (Option.none ) Value.none Value.none 0, #[]⟩
noncomputable def o202 (P : Params) : Obj := ⟨Value.type "code", Option.none , Data.fields #[Value.str "__init__" 445, Value.str "Finder.__init__" 446, Value.str "/claim/cut.py" 447, Value.int 85 0, Value.int 5 0, Value.int 0 0, Value.int 0 0, Value.int 3 0, Value.ref 196, Value.bool true, Value.int 181 0, Value.ref 197, Value.none, Value.ref 198, Value.ref 199, Value.ref 200, Value.int 453 0, Value.int 85 0, Value.str "/claim/cut.py" 454], #[]⟩
noncomputable def o203 (P : Params) : Obj := ⟨Value.type "function", Option.none , fD "__init__" "Finder.__init__" (pM 8 0) 3 [] (Value.ref 195) Value.none Value.none (Value.str "threepress.matches" 240) (Option.none ) (Value.ref 201) Value.none 0, #[]⟩
noncomputable def o204 (P : Params) : Obj := ⟨Value.type "tuple", Option.none , Data.seq #[] 0, #[]⟩
noncomputable def o205 (P : Params) : Obj := ⟨Value.none, Option.none , Data.fields #[], #[]⟩
noncomputable def o206 (P : Params) : Obj := ⟨Value.type "tuple", Option.none , Data.seq #[Value.str "self" 459, Value.str "place" 460] 0, #[]⟩
noncomputable def o207 (P : Params) : Obj := ⟨Value.type "tuple", Option.none , Data.seq #[] 0, #[]⟩
noncomputable def o208 (P : Params) : Obj := ⟨Value.none, Option.none , fD "enter" "Finder.enter" (pM 8 1) 0 [] Value.none Value.none Value.none Value.none (Option.none ) Value.none Value.none 0, #[]⟩
noncomputable def o209 (P : Params) : Obj := ⟨Value.type "code", Option.none , Data.fields #[Value.str "enter" 456, Value.str "Finder.enter" 457, Value.str "/claim/cut.py" 458, Value.int 89 0, Value.int 2 0, Value.int 0 0, Value.int 0 0, Value.int 3 0, Value.ref 203, Value.bool true, Value.int 181 0, Value.ref 204, Value.none, Value.ref 205, Value.ref 206, Value.ref 207, Value.int 461 0, Value.int 89 0, Value.str "/claim/cut.py" 462], #[]⟩
noncomputable def o210 (P : Params) : Obj := ⟨Value.type "function", Option.none , fD "enter" "Finder.enter" (pM 8 1) 3 [] Value.none Value.none Value.none (Value.str "threepress.matches" 240) (Option.none ) (Value.ref 208) Value.none 0, #[]⟩
noncomputable def o211 (P : Params) : Obj := ⟨Value.type "tuple", Option.none , Data.seq #[] 0, #[]⟩
noncomputable def o212 (P : Params) : Obj := ⟨Value.none, Option.none , Data.fields #[], #[]⟩
noncomputable def o213 (P : Params) : Obj := ⟨Value.type "tuple", Option.none , Data.seq #[Value.str "self" 467, Value.str "place" 468] 0, #[]⟩
noncomputable def o214 (P : Params) : Obj := ⟨Value.type "tuple", Option.none , Data.seq #[] 0, #[]⟩
noncomputable def o215 (P : Params) : Obj := ⟨Value.none, Option.none , fD "candidates" "Finder.candidates" (pM 8 2) 0 [] Value.none Value.none Value.none Value.none (Option.none ) Value.none Value.none 0, #[]⟩
noncomputable def o216 (P : Params) : Obj := ⟨Value.type "code", Option.none , Data.fields #[Value.str "candidates" 464, Value.str "Finder.candidates" 465, Value.str "/claim/cut.py" 466, Value.int 92 0, Value.int 2 0, Value.int 0 0, Value.int 0 0, Value.int 3 0, Value.ref 210, Value.bool true, Value.int 181 0, Value.ref 211, Value.none, Value.ref 212, Value.ref 213, Value.ref 214, Value.int 469 0, Value.int 92 0, Value.str "/claim/cut.py" 470], #[]⟩
noncomputable def o217 (P : Params) : Obj := ⟨Value.type "function", Option.none , fD "candidates" "Finder.candidates" (pM 8 2) 3 [] Value.none Value.none Value.none (Value.str "threepress.matches" 240) (Option.none ) (Value.ref 215) Value.none 0, #[]⟩
noncomputable def o218 (P : Params) : Obj := ⟨Value.type "tuple", Option.none , Data.seq #[] 0, #[]⟩
noncomputable def o219 (P : Params) : Obj := ⟨Value.none, Option.none , Data.fields #[], #[]⟩
noncomputable def o220 (P : Params) : Obj := ⟨Value.type "tuple", Option.none , Data.seq #[Value.str "self" 475, Value.str "place" 476, Value.str "most" 477] 0, #[]⟩
noncomputable def o221 (P : Params) : Obj := ⟨Value.type "tuple", Option.none , Data.seq #[] 0, #[]⟩
noncomputable def o222 (P : Params) : Obj := ⟨Value.none, Option.none , fD "every" "Finder.every" (pM 8 3) 0 [] Value.none Value.none Value.none Value.none (Option.none ) Value.none Value.none 0, #[]⟩
noncomputable def o223 (P : Params) : Obj := ⟨Value.type "code", Option.none , Data.fields #[Value.str "every" 472, Value.str "Finder.every" 473, Value.str "/claim/cut.py" 474, Value.int 95 0, Value.int 3 0, Value.int 0 0, Value.int 0 0, Value.int 3 0, Value.ref 217, Value.bool true, Value.int 181 0, Value.ref 218, Value.none, Value.ref 219, Value.ref 220, Value.ref 221, Value.int 478 0, Value.int 95 0, Value.str "/claim/cut.py" 479], #[]⟩
noncomputable def o224 (P : Params) : Obj := ⟨Value.type "function", Option.none , fD "every" "Finder.every" (pM 8 3) 3 [] Value.none Value.none Value.none (Value.str "threepress.matches" 240) (Option.none ) (Value.ref 222) Value.none 0, #[]⟩
noncomputable def o225 (P : Params) : Obj := ⟨Value.type "tuple", Option.none , Data.seq #[Value.str "row" 481] 0, #[]⟩
noncomputable def o226 (P : Params) : Obj := ⟨Value.type "dict", Option.none , Data.dict #[eS P "__module__" 437 (Value.str "threepress.matches" 240), eS P "__firstlineno__" 441 (Value.int 83 440), eS P "__init__" 455 (Value.ref 202), eS P "enter" 463 (Value.ref 209), eS P "candidates" 471 (Value.ref 216), eS P "every" 480 (Value.ref 223), eS P "__static_attributes__" 482 (Value.ref 224), eS P "__doc__" 483 Value.none] 2, #[]⟩
noncomputable def o227 (P : Params) : Obj := ⟨Value.type "type", Option.none , Data.cls ⟨"Finder", [Value.ref 183], [Value.ref 226, Value.ref 183, Value.type "object"], 225, "Finder", true, [], [], false, Option.none , false⟩, #[some (Value.ref 188), Option.none , some (Value.str "Finder" 430), some (Value.str "Finder" 438), some (Value.builtin "object.__new__"), some (Value.bool true)]⟩
noncomputable def o228 (P : Params) : Obj := ⟨Value.type "super", Option.none , Data.fields #[Value.ref 226, Value.ref 226, Value.ref 226], #[]⟩
noncomputable def o229 (P : Params) : Obj := ⟨Value.type "builtin_function_or_method", Option.none , Data.fields #[Value.builtin "object.__init_subclass__", Value.ref 226], #[]⟩
noncomputable def t5 (P : Params) : BT := (N (boot_o_0 P) (N (boot_o_1 P) (N (o186 P) (N (boot_o_7 P) (N (o6 P) (N (o22 P) (N (o59 P) (N (o125 P) L L) (N (o192 P) L L)) (N (o91 P) (N (o157 P) L L) (N (o224 P) L L))) (N (o41 P) (N (o75 P) (N (o141 P) L L) (N (o208 P) L L)) (N (o109 P) (N (o173 P) L L) L))) (N (o14 P) (N (o36 P) (N (o67 P) (N (o133 P) L L) (N (o200 P) L L)) (N (o101 P) (N (o165 P) L L) L)) (N (o51 P) (N (o83 P) (N (o149 P) L L) (N (o216 P) L L)) (N (o117 P) (N (o188 P) L L) L)))) (N (o0 P) (N (o10 P) (N (o26 P) (N (o63 P) (N (o129 P) L L) (N (o196 P) L L)) (N (o97 P) (N (o161 P) L L) (N (o228 P) L L))) (N (o45 P) (N (o79 P) (N (o145 P) L L) (N (o212 P) L L)) (N (o113 P) (N (o177 P) L L) L))) (N (o18 P) (N (o37 P) (N (o71 P) (N (o137 P) L L) (N (o204 P) L L)) (N (o105 P) (N (o169 P) L L) L)) (N (o55 P) (N (o87 P) (N (o153 P) L L) (N (o220 P) L L)) (N (o121 P) (N (o185 P) L L) L))))) (N (boot_o_5 P) (N (boot_o_9 P) (N (o8 P) (N (o24 P) (N (o61 P) (N (o127 P) L L) (N (o194 P) L L)) (N (o95 P) (N (o159 P) L L) (N (o226 P) L L))) (N (o43 P) (N (o77 P) (N (o143 P) L L) (N (o210 P) L L)) (N (o111 P) (N (o175 P) L L) L))) (N (o16 P) (N (o32 P) (N (o69 P) (N (o135 P) L L) (N (o202 P) L L)) (N (o103 P) (N (o167 P) L L) L)) (N (o53 P) (N (o85 P) (N (o151 P) L L) (N (o218 P) L L)) (N (o119 P) (N (o183 P) L L) L)))) (N (o2 P) (N (o12 P) (N (o28 P) (N (o65 P) (N (o131 P) L L) (N (o198 P) L L)) (N (o99 P) (N (o163 P) L L) L)) (N (o47 P) (N (o81 P) (N (o147 P) L L) (N (o214 P) L L)) (N (o115 P) (N (o179 P) L L) L))) (N (o20 P) (N (o39 P) (N (o73 P) (N (o139 P) L L) (N (o206 P) L L)) (N (o107 P) (N (o171 P) L L) L)) (N (o57 P) (N (o89 P) (N (o155 P) L L) (N (o222 P) L L)) (N (o123 P) (N (o190 P) L L) L)))))) (N (boot_o_2 P) (N (boot_o_4 P) (N (boot_o_8 P) (N (o7 P) (N (o23 P) (N (o60 P) (N (o126 P) L L) (N (o193 P) L L)) (N (o92 P) (N (o158 P) L L) (N (o225 P) L L))) (N (o42 P) (N (o76 P) (N (o142 P) L L) (N (o209 P) L L)) (N (o110 P) (N (o174 P) L L) L))) (N (o15 P) (N (o31 P) (N (o68 P) (N (o134 P) L L) (N (o201 P) L L)) (N (o102 P) (N (o166 P) L L) L)) (N (o52 P) (N (o84 P) (N (o150 P) L L) (N (o217 P) L L)) (N (o118 P) (N (o182 P) L L) L)))) (N (o187 P) (N (o11 P) (N (o27 P) (N (o64 P) (N (o130 P) L L) (N (o197 P) L L)) (N (o98 P) (N (o162 P) L L) (N (o229 P) L L))) (N (o46 P) (N (o80 P) (N (o146 P) L L) (N (o213 P) L L)) (N (o114 P) (N (o178 P) L L) L))) (N (o19 P) (N (o38 P) (N (o72 P) (N (o138 P) L L) (N (o205 P) L L)) (N (o106 P) (N (o170 P) L L) L)) (N (o56 P) (N (o88 P) (N (o154 P) L L) (N (o221 P) L L)) (N (o122 P) (N (o189 P) L L) L))))) (N (boot_o_6 P) (N (boot_o_10 P) (N (o9 P) (N (o25 P) (N (o62 P) (N (o128 P) L L) (N (o195 P) L L)) (N (o96 P) (N (o160 P) L L) (N (o227 P) L L))) (N (o44 P) (N (o78 P) (N (o144 P) L L) (N (o211 P) L L)) (N (o112 P) (N (o176 P) L L) L))) (N (o17 P) (N (o33 P) (N (o70 P) (N (o136 P) L L) (N (o203 P) L L)) (N (o104 P) (N (o168 P) L L) L)) (N (o54 P) (N (o86 P) (N (o152 P) L L) (N (o219 P) L L)) (N (o120 P) (N (o184 P) L L) L)))) (N (o3 P) (N (o13 P) (N (o29 P) (N (o66 P) (N (o132 P) L L) (N (o199 P) L L)) (N (o100 P) (N (o164 P) L L) L)) (N (o48 P) (N (o82 P) (N (o148 P) L L) (N (o215 P) L L)) (N (o116 P) (N (o180 P) L L) L))) (N (o21 P) (N (o40 P) (N (o74 P) (N (o140 P) L L) (N (o207 P) L L)) (N (o108 P) (N (o172 P) L L) L)) (N (o58 P) (N (o90 P) (N (o156 P) L L) (N (o223 P) L L)) (N (o124 P) (N (o191 P) L L) L)))))))
theorem r4 (w : World) : (fun os : OsState => PySem.W.Fast.tw10110043849684766642 PySem.W.Fast.tw14364793385576792824 pw w 11 (some (.ref 6)) 1 350 ⟨t4 w.params, 188, {}, ⟨[]⟩, {}, 430, os⟩ (piecesOf (sl 8 1) env0 (.body B0 env0) ⟨32, 0, 82, 16⟩ [topFrame ⟨0, 0, 0, 0⟩])) = fun os => some (Flow.next, ⟨t5 w.params, 229, {}, ⟨[]⟩, {}, 486, os⟩, (.body B0 env0), ⟨83, 0, 96, 17⟩) := by
  kernel_rfl
noncomputable def o230 (P : Params) : Obj := ⟨Value.type "dict", Option.none , Data.dict #[eS P "__name__" 165 (Value.str "threepress.matches" 240), eS P "__doc__" 166 Value.none, eS P "__package__" 167 Value.none, eS P "__loader__" 168 (Value.builtin "__main__.__loader__#opaque"), eS P "__spec__" 169 Value.none, eS P "__annotations__" 170 (Value.ref 6), eS P "__builtins__" 171 (Value.ref 4), eS P "__file__" 173 (Value.str "/claim/cut.py" 172), eS P "__cached__" 174 Value.none, eS P "_wall" 193 (Value.ref 21), eS P "PressError" 223 (Value.ref 39), eS P "BadArgument" 239 (Value.ref 52), eS P "NOWHERE" 244 (Value.int (-1) 243), eS P "PlaceRow" 301 (Value.ref 92), eS P "Matcher" 429 (Value.ref 183), eS P "Finder" 485 (Value.ref 226), eS P "TreeFinder" 555 (Value.ref 274)] 17, #[]⟩
noncomputable def o231 (P : Params) : Obj := ⟨Value.none, Option.none , Data.fields #[Value.int 1 0, Value.int 0 0, Value.ref 20, Value.int 5 0, Value.int 0 0, Value.ref 27, Value.int 10 0, Value.int 0 0, Value.ref 48, Value.int 14 0, Value.int 0 0, Value.ref 60, Value.int 32 0, Value.int 0 0, Value.ref 102, Value.int 83 0, Value.int 0 0, Value.ref 193, Value.int 97 0, Value.int 0 0, Value.ref 234], #[]⟩
noncomputable def o232 (P : Params) : Obj := ⟨Value.type "type", Option.none , Data.cls ⟨"Matcher", [Value.type "object"], [Value.ref 183, Value.type "object"], 182, "Matcher", true, [], [Value.ref 226, Value.ref 274], false, Option.none , false⟩, #[Option.none , Option.none , some (Value.str "Matcher" 302), some (Value.str "Matcher" 310), some (Value.builtin "object.__new__"), some (Value.bool true)]⟩
noncomputable def o233 (P : Params) : Obj := ⟨Value.type "tuple", Option.none , Data.seq #[Value.ref 183] 0, #[]⟩
noncomputable def o234 (P : Params) : Obj := ⟨Value.type "builtin_function_or_method", Option.none , Data.fields #[Value.builtin "type.__prepare__", Value.type "type"], #[]⟩
noncomputable def o235 (P : Params) : Obj := ⟨Value.type "dict", Option.none , Data.dict #[eS P "__module__" 493 (Value.str "threepress.matches" 240), eS P "__qualname__" 495 (Value.str "TreeFinder" 494), eS P "__firstlineno__" 497 (Value.int 97 496), eS P "__init__" 511 (Value.ref 243), eS P "hang" 521 (Value.ref 250), eS P "enter" 529 (Value.ref 257), eS P "part" 538 (Value.ref 264), eS P "every" 547 (Value.ref 271), eS P "__static_attributes__" 552 (Value.ref 272)] 9, #[]⟩
noncomputable def o236 (P : Params) : Obj := ⟨Value.type "tuple", Option.none , Data.seq #[] 0, #[]⟩
noncomputable def o237 (P : Params) : Obj := ⟨Value.none, Option.none , Data.fields #[Value.int 99 0, Value.int 4 0, Value.ref 242, Value.int 106 0, Value.int 4 0, Value.ref 249, Value.int 109 0, Value.int 4 0, Value.ref 256, Value.int 112 0, Value.int 4 0, Value.ref 263, Value.int 115 0, Value.int 4 0, Value.ref 270], #[]⟩
noncomputable def o238 (P : Params) : Obj := ⟨Value.type "code", Option.none , Data.fields #[Value.str "TreeFinder" 488, Value.str "TreeFinder" 489, Value.str "/claim/cut.py" 490, Value.int 97 0, Value.int 0 0, Value.int 0 0, Value.int 0 0, Value.int 0 0, Value.ref 232, Value.bool false, Value.int 181 0, Value.ref 233, Value.none, Value.none, Value.none, Value.none, Value.int 491 0, Value.int 97 0, Value.str "/claim/cut.py" 492], #[]⟩
noncomputable def o239 (P : Params) : Obj := ⟨Value.type "frame", Option.none , Data.plain, #[some (Value.ref 234), some (Value.ref 3), some (Value.ref 231), Option.none , some (Value.str "threepress.matches" 240), Option.none , some (Value.ref 0)]⟩
noncomputable def o240 (P : Params) : Obj := ⟨Value.type "tuple", Option.none , Data.seq #[Value.int 3 498, Value.int 32768 499, Value.int 32 500] 0, #[]⟩
noncomputable def o241 (P : Params) : Obj := ⟨Value.type "tuple", Option.none , Data.seq #[] 0, #[]⟩
noncomputable def o242 (P : Params) : Obj := ⟨Value.none, Option.none , Data.fields #[], #[]⟩
noncomputable def o243 (P : Params) : Obj := ⟨Value.type "tuple", Option.none , Data.seq #[Value.str "self" 504, Value.str "octets" 505, Value.str "least" 506, Value.str "window" 507, Value.str "chain" 508] 0, #[]⟩
noncomputable def o244 (P : Params) : Obj := ⟨Value.type "tuple", Option.none , Data.seq #[] 0, #[]⟩
noncomputable def o245 (P : Params) : Obj := ⟨Value.none, Option.none , fD "__init__" "TreeFinder.__init__" (pM 9 0) 0 [] Value.none Value.none Value.none Value.none (Option.none ) Value.none Value.none 0, #[]⟩
noncomputable def o246 (P : Params) : Obj := ⟨Value.type "code", Option.none , Data.fields #[Value.str "__init__" 501, Value.str "TreeFinder.__init__" 502, Value.str "/claim/cut.py" 503, Value.int 99 0, Value.int 5 0, Value.int 0 0, Value.int 0 0, Value.int 3 0, Value.ref 237, Value.bool true, Value.int 181 0, Value.ref 238, Value.none, Value.ref 239, Value.ref 240, Value.ref 241, Value.int 509 0, Value.int 99 0, Value.str "/claim/cut.py" 510], #[]⟩
noncomputable def o247 (P : Params) : Obj := ⟨Value.type "function", Option.none , fD "__init__" "TreeFinder.__init__" (pM 9 0) 3 [] (Value.ref 236) Value.none Value.none (Value.str "threepress.matches" 240) (Option.none ) (Value.ref 242) Value.none 0, #[]⟩
noncomputable def o248 (P : Params) : Obj := ⟨Value.type "tuple", Option.none , Data.seq #[] 0, #[]⟩
noncomputable def o249 (P : Params) : Obj := ⟨Value.none, Option.none , Data.fields #[], #[]⟩
noncomputable def o250 (P : Params) : Obj := ⟨Value.type "tuple", Option.none , Data.seq #[Value.str "self" 515, Value.str "owner" 516, Value.str "is_greater" 517, Value.str "place" 518] 0, #[]⟩
noncomputable def o251 (P : Params) : Obj := ⟨Value.type "tuple", Option.none , Data.seq #[] 0, #[]⟩
noncomputable def o252 (P : Params) : Obj := ⟨Value.none, Option.none , fD "hang" "TreeFinder.hang" (pM 9 1) 0 [] Value.none Value.none Value.none Value.none (Option.none ) Value.none Value.none 0, #[]⟩
noncomputable def o253 (P : Params) : Obj := ⟨Value.type "code", Option.none , Data.fields #[Value.str "hang" 512, Value.str "TreeFinder.hang" 513, Value.str "/claim/cut.py" 514, Value.int 106 0, Value.int 4 0, Value.int 0 0, Value.int 0 0, Value.int 3 0, Value.ref 244, Value.bool true, Value.int 181 0, Value.ref 245, Value.none, Value.ref 246, Value.ref 247, Value.ref 248, Value.int 519 0, Value.int 106 0, Value.str "/claim/cut.py" 520], #[]⟩
noncomputable def o254 (P : Params) : Obj := ⟨Value.type "function", Option.none , fD "hang" "TreeFinder.hang" (pM 9 1) 3 [] Value.none Value.none Value.none (Value.str "threepress.matches" 240) (Option.none ) (Value.ref 249) Value.none 0, #[]⟩
noncomputable def o255 (P : Params) : Obj := ⟨Value.type "tuple", Option.none , Data.seq #[] 0, #[]⟩
noncomputable def o256 (P : Params) : Obj := ⟨Value.none, Option.none , Data.fields #[], #[]⟩
noncomputable def o257 (P : Params) : Obj := ⟨Value.type "tuple", Option.none , Data.seq #[Value.str "self" 525, Value.str "place" 526] 0, #[]⟩
noncomputable def o258 (P : Params) : Obj := ⟨Value.type "tuple", Option.none , Data.seq #[] 0, #[]⟩
noncomputable def o259 (P : Params) : Obj := ⟨Value.none, Option.none , fD "enter" "TreeFinder.enter" (pM 9 2) 0 [] Value.none Value.none Value.none Value.none (Option.none ) Value.none Value.none 0, #[]⟩
noncomputable def o260 (P : Params) : Obj := ⟨Value.type "code", Option.none , Data.fields #[Value.str "enter" 522, Value.str "TreeFinder.enter" 523, Value.str "/claim/cut.py" 524, Value.int 109 0, Value.int 2 0, Value.int 0 0, Value.int 0 0, Value.int 3 0, Value.ref 251, Value.bool true, Value.int 181 0, Value.ref 252, Value.none, Value.ref 253, Value.ref 254, Value.ref 255, Value.int 527 0, Value.int 109 0, Value.str "/claim/cut.py" 528], #[]⟩
noncomputable def o261 (P : Params) : Obj := ⟨Value.type "function", Option.none , fD "enter" "TreeFinder.enter" (pM 9 2) 3 [] Value.none Value.none Value.none (Value.str "threepress.matches" 240) (Option.none ) (Value.ref 256) Value.none 0, #[]⟩
noncomputable def o262 (P : Params) : Obj := ⟨Value.type "tuple", Option.none , Data.seq #[] 0, #[]⟩
noncomputable def o263 (P : Params) : Obj := ⟨Value.none, Option.none , Data.fields #[], #[]⟩
noncomputable def o264 (P : Params) : Obj := ⟨Value.type "tuple", Option.none , Data.seq #[Value.str "self" 533, Value.str "place" 534, Value.str "other" 535] 0, #[]⟩
noncomputable def o265 (P : Params) : Obj := ⟨Value.type "tuple", Option.none , Data.seq #[] 0, #[]⟩
noncomputable def o266 (P : Params) : Obj := ⟨Value.none, Option.none , fD "part" "TreeFinder.part" (pM 9 3) 0 [] Value.none Value.none Value.none Value.none (Option.none ) Value.none Value.none 0, #[]⟩
noncomputable def o267 (P : Params) : Obj := ⟨Value.type "code", Option.none , Data.fields #[Value.str "part" 530, Value.str "TreeFinder.part" 531, Value.str "/claim/cut.py" 532, Value.int 112 0, Value.int 3 0, Value.int 0 0, Value.int 0 0, Value.int 3 0, Value.ref 258, Value.bool true, Value.int 181 0, Value.ref 259, Value.none, Value.ref 260, Value.ref 261, Value.ref 262, Value.int 536 0, Value.int 112 0, Value.str "/claim/cut.py" 537], #[]⟩
noncomputable def o268 (P : Params) : Obj := ⟨Value.type "function", Option.none , fD "part" "TreeFinder.part" (pM 9 3) 3 [] Value.none Value.none Value.none (Value.str "threepress.matches" 240) (Option.none ) (Value.ref 263) Value.none 0, #[]⟩
noncomputable def o269 (P : Params) : Obj := ⟨Value.type "tuple", Option.none , Data.seq #[] 0, #[]⟩
noncomputable def o270 (P : Params) : Obj := ⟨Value.none, Option.none , Data.fields #[], #[]⟩
noncomputable def o271 (P : Params) : Obj := ⟨Value.type "tuple", Option.none , Data.seq #[Value.str "self" 542, Value.str "place" 543, Value.str "most" 544] 0, #[]⟩
noncomputable def o272 (P : Params) : Obj := ⟨Value.type "tuple", Option.none , Data.seq #[] 0, #[]⟩
noncomputable def o273 (P : Params) : Obj := ⟨Value.none, Option.none , fD "every" "TreeFinder.every" (pM 9 4) 0 [] Value.none Value.none Value.none Value.none (Option.none ) Value.none Value.none 0, #[]⟩
noncomputable def o274 (P : Params) : Obj := ⟨Value.type "code", Option.none , Data.fields #[Value.str "every" 539, Value.str "TreeFinder.every" 540, Value.str "/claim/cut.py" 541, Value.int 115 0, Value.int 3 0, Value.int 0 0, Value.int 0 0, Value.int 3 0, Value.ref 265, Value.bool true, Value.int 181 0, Value.ref 266, Value.none, Value.ref 267, Value.ref 268, Value.ref 269, Value.int 545 0, Value.int 115 0, Value.str "/claim/cut.py" 546], #[]⟩
noncomputable def o275 (P : Params) : Obj := ⟨Value.type "function", Option.none , fD "every" "TreeFinder.every" (pM 9 4) 3 [] Value.none Value.none Value.none (Value.str "threepress.matches" 240) (Option.none ) (Value.ref 270) Value.none 0, #[]⟩
noncomputable def o276 (P : Params) : Obj := ⟨Value.type "tuple", Option.none , Data.seq #[Value.str "greater" 548, Value.str "roots" 549, Value.str "row" 550, Value.str "smaller" 551] 0, #[]⟩
noncomputable def o277 (P : Params) : Obj := ⟨Value.type "dict", Option.none , Data.dict #[eS P "__module__" 493 (Value.str "threepress.matches" 240), eS P "__firstlineno__" 497 (Value.int 97 496), eS P "__init__" 511 (Value.ref 243), eS P "hang" 521 (Value.ref 250), eS P "enter" 529 (Value.ref 257), eS P "part" 538 (Value.ref 264), eS P "every" 547 (Value.ref 271), eS P "__static_attributes__" 552 (Value.ref 272), eS P "__doc__" 553 Value.none] 2, #[]⟩
noncomputable def o278 (P : Params) : Obj := ⟨Value.type "type", Option.none , Data.cls ⟨"TreeFinder", [Value.ref 183], [Value.ref 274, Value.ref 183, Value.type "object"], 273, "TreeFinder", true, [], [], false, Option.none , false⟩, #[some (Value.ref 229), Option.none , some (Value.str "TreeFinder" 486), some (Value.str "TreeFinder" 494), some (Value.builtin "object.__new__"), some (Value.bool true)]⟩
noncomputable def o279 (P : Params) : Obj := ⟨Value.type "super", Option.none , Data.fields #[Value.ref 274, Value.ref 274, Value.ref 274], #[]⟩
noncomputable def o280 (P : Params) : Obj := ⟨Value.type "builtin_function_or_method", Option.none , Data.fields #[Value.builtin "object.__init_subclass__", Value.ref 274], #[]⟩
noncomputable def t6 (P : Params) : BT := (N (boot_o_0 P) (N (boot_o_1 P) (N (o230 P) (N (boot_o_7 P) (N (o6 P) (N (o22 P) (N (o59 P) (N (o125 P) (N (o259 P) L L) L) (N (o192 P) L L)) (N (o91 P) (N (o157 P) L L) (N (o224 P) L L))) (N (o41 P) (N (o75 P) (N (o141 P) (N (o275 P) L L) L) (N (o208 P) L L)) (N (o109 P) (N (o173 P) L L) (N (o243 P) L L)))) (N (o14 P) (N (o36 P) (N (o67 P) (N (o133 P) (N (o267 P) L L) L) (N (o200 P) L L)) (N (o101 P) (N (o165 P) L L) (N (o235 P) L L))) (N (o51 P) (N (o83 P) (N (o149 P) L L) (N (o216 P) L L)) (N (o117 P) (N (o232 P) L L) (N (o251 P) L L))))) (N (o0 P) (N (o10 P) (N (o26 P) (N (o63 P) (N (o129 P) (N (o263 P) L L) L) (N (o196 P) L L)) (N (o97 P) (N (o161 P) L L) (N (o228 P) L L))) (N (o45 P) (N (o79 P) (N (o145 P) (N (o279 P) L L) L) (N (o212 P) L L)) (N (o113 P) (N (o177 P) L L) (N (o247 P) L L)))) (N (o18 P) (N (o37 P) (N (o71 P) (N (o137 P) (N (o271 P) L L) L) (N (o204 P) L L)) (N (o105 P) (N (o169 P) L L) (N (o239 P) L L))) (N (o55 P) (N (o87 P) (N (o153 P) L L) (N (o220 P) L L)) (N (o121 P) (N (o185 P) L L) (N (o255 P) L L)))))) (N (boot_o_5 P) (N (boot_o_9 P) (N (o8 P) (N (o24 P) (N (o61 P) (N (o127 P) (N (o261 P) L L) L) (N (o194 P) L L)) (N (o95 P) (N (o159 P) L L) (N (o226 P) L L))) (N (o43 P) (N (o77 P) (N (o143 P) (N (o277 P) L L) L) (N (o210 P) L L)) (N (o111 P) (N (o175 P) L L) (N (o245 P) L L)))) (N (o16 P) (N (o32 P) (N (o69 P) (N (o135 P) (N (o269 P) L L) L) (N (o202 P) L L)) (N (o103 P) (N (o167 P) L L) (N (o237 P) L L))) (N (o53 P) (N (o85 P) (N (o151 P) L L) (N (o218 P) L L)) (N (o119 P) (N (o183 P) L L) (N (o253 P) L L))))) (N (o2 P) (N (o12 P) (N (o28 P) (N (o65 P) (N (o131 P) (N (o265 P) L L) L) (N (o198 P) L L)) (N (o99 P) (N (o163 P) L L) (N (o233 P) L L))) (N (o47 P) (N (o81 P) (N (o147 P) L L) (N (o214 P) L L)) (N (o115 P) (N (o179 P) L L) (N (o249 P) L L)))) (N (o20 P) (N (o39 P) (N (o73 P) (N (o139 P) (N (o273 P) L L) L) (N (o206 P) L L)) (N (o107 P) (N (o171 P) L L) (N (o241 P) L L))) (N (o57 P) (N (o89 P) (N (o155 P) L L) (N (o222 P) L L)) (N (o123 P) (N (o190 P) L L) (N (o257 P) L L))))))) (N (boot_o_2 P) (N (boot_o_4 P) (N (boot_o_8 P) (N (o7 P) (N (o23 P) (N (o60 P) (N (o126 P) (N (o260 P) L L) L) (N (o193 P) L L)) (N (o92 P) (N (o158 P) L L) (N (o225 P) L L))) (N (o42 P) (N (o76 P) (N (o142 P) (N (o276 P) L L) L) (N (o209 P) L L)) (N (o110 P) (N (o174 P) L L) (N (o244 P) L L)))) (N (o15 P) (N (o31 P) (N (o68 P) (N (o134 P) (N (o268 P) L L) L) (N (o201 P) L L)) (N (o102 P) (N (o166 P) L L) (N (o236 P) L L))) (N (o52 P) (N (o84 P) (N (o150 P) L L) (N (o217 P) L L)) (N (o118 P) (N (o182 P) L L) (N (o252 P) L L))))) (N (o231 P) (N (o11 P) (N (o27 P) (N (o64 P) (N (o130 P) (N (o264 P) L L) L) (N (o197 P) L L)) (N (o98 P) (N (o162 P) L L) (N (o229 P) L L))) (N (o46 P) (N (o80 P) (N (o146 P) (N (o280 P) L L) L) (N (o213 P) L L)) (N (o114 P) (N (o178 P) L L) (N (o248 P) L L)))) (N (o19 P) (N (o38 P) (N (o72 P) (N (o138 P) (N (o272 P) L L) L) (N (o205 P) L L)) (N (o106 P) (N (o170 P) L L) (N (o240 P) L L))) (N (o56 P) (N (o88 P) (N (o154 P) L L) (N (o221 P) L L)) (N (o122 P) (N (o189 P) L L) (N (o256 P) L L)))))) (N (boot_o_6 P) (N (boot_o_10 P) (N (o9 P) (N (o25 P) (N (o62 P) (N (o128 P) (N (o262 P) L L) L) (N (o195 P) L L)) (N (o96 P) (N (o160 P) L L) (N (o227 P) L L))) (N (o44 P) (N (o78 P) (N (o144 P) (N (o278 P) L L) L) (N (o211 P) L L)) (N (o112 P) (N (o176 P) L L) (N (o246 P) L L)))) (N (o17 P) (N (o33 P) (N (o70 P) (N (o136 P) (N (o270 P) L L) L) (N (o203 P) L L)) (N (o104 P) (N (o168 P) L L) (N (o238 P) L L))) (N (o54 P) (N (o86 P) (N (o152 P) L L) (N (o219 P) L L)) (N (o120 P) (N (o184 P) L L) (N (o254 P) L L))))) (N (o3 P) (N (o13 P) (N (o29 P) (N (o66 P) (N (o132 P) (N (o266 P) L L) L) (N (o199 P) L L)) (N (o100 P) (N (o164 P) L L) (N (o234 P) L L))) (N (o48 P) (N (o82 P) (N (o148 P) L L) (N (o215 P) L L)) (N (o116 P) (N (o180 P) L L) (N (o250 P) L L)))) (N (o21 P) (N (o40 P) (N (o74 P) (N (o140 P) (N (o274 P) L L) L) (N (o207 P) L L)) (N (o108 P) (N (o172 P) L L) (N (o242 P) L L))) (N (o58 P) (N (o90 P) (N (o156 P) L L) (N (o223 P) L L)) (N (o124 P) (N (o191 P) L L) (N (o258 P) L L))))))))
theorem r5 (w : World) : (fun os : OsState => PySem.W.Fast.tw10110043849684766642 PySem.W.Fast.tw14364793385576792824 pw w 11 (some (.ref 6)) 1 388 ⟨t5 w.params, 229, {}, ⟨[]⟩, {}, 486, os⟩ (piecesOf (sl 9 1) env0 (.body B0 env0) ⟨83, 0, 96, 17⟩ [topFrame ⟨0, 0, 0, 0⟩])) = fun os => some (Flow.next, ⟨t6 w.params, 277, {}, ⟨[]⟩, {}, 556, os⟩, (.body B0 env0), ⟨97, 0, 116, 17⟩) := by
  kernel_rfl
noncomputable def o281 (P : Params) : Obj := ⟨Value.type "dict", Option.none , Data.dict #[eS P "__name__" 165 (Value.str "law_tg0038_01" 604), eS P "__doc__" 166 Value.none, eS P "__package__" 167 Value.none, eS P "__loader__" 168 (Value.builtin "__main__.__loader__#opaque"), eS P "__spec__" 169 Value.none, eS P "__annotations__" 170 (Value.ref 6), eS P "__builtins__" 171 (Value.ref 4), eS P "__file__" 173 (Value.str "/claim/cut.py" 172), eS P "__cached__" 174 Value.none, eS P "_wall" 193 (Value.ref 21), eS P "PressError" 223 (Value.ref 39), eS P "BadArgument" 239 (Value.ref 52), eS P "NOWHERE" 244 (Value.int (-1) 243), eS P "PlaceRow" 301 (Value.ref 92), eS P "Matcher" 429 (Value.ref 183), eS P "Finder" 485 (Value.ref 226), eS P "TreeFinder" 555 (Value.ref 274), eS P "LayeredFinder" 603 (Value.ref 307), eS P "_law_box" 615 (Value.ref 316)] 19, #[]⟩
noncomputable def o282 (P : Params) : Obj := ⟨Value.none, Option.none , Data.fields #[Value.int 1 0, Value.int 0 0, Value.ref 20, Value.int 5 0, Value.int 0 0, Value.ref 27, Value.int 10 0, Value.int 0 0, Value.ref 48, Value.int 14 0, Value.int 0 0, Value.ref 60, Value.int 32 0, Value.int 0 0, Value.ref 102, Value.int 83 0, Value.int 0 0, Value.ref 193, Value.int 97 0, Value.int 0 0, Value.ref 234, Value.int 117 0, Value.int 0 0, Value.ref 282, Value.int 132 0, Value.int 0 0, Value.ref 315], #[]⟩
noncomputable def o283 (P : Params) : Obj := ⟨Value.type "type", Option.none , Data.cls ⟨"Matcher", [Value.type "object"], [Value.ref 183, Value.type "object"], 182, "Matcher", true, [], [Value.ref 226, Value.ref 274, Value.ref 307], false, Option.none , false⟩, #[Option.none , Option.none , some (Value.str "Matcher" 302), some (Value.str "Matcher" 310), some (Value.builtin "object.__new__"), some (Value.bool true)]⟩
noncomputable def o284 (P : Params) : Obj := ⟨Value.type "tuple", Option.none , Data.seq #[Value.ref 183] 0, #[]⟩
noncomputable def o285 (P : Params) : Obj := ⟨Value.type "builtin_function_or_method", Option.none , Data.fields #[Value.builtin "type.__prepare__", Value.type "type"], #[]⟩
noncomputable def o286 (P : Params) : Obj := ⟨Value.type "dict", Option.none , Data.dict #[eS P "__module__" 563 (Value.str "threepress.matches" 240), eS P "__qualname__" 565 (Value.str "LayeredFinder" 564), eS P "__firstlineno__" 567 (Value.int 117 566), eS P "LAYERS" 570 (Value.ref 284), eS P "TREE" 572 (Value.int 4 571), eS P "__init__" 580 (Value.ref 290), eS P "enter" 588 (Value.ref 297), eS P "every" 597 (Value.ref 304), eS P "__static_attributes__" 600 (Value.ref 305)] 9, #[]⟩
noncomputable def o287 (P : Params) : Obj := ⟨Value.type "tuple", Option.none , Data.seq #[] 0, #[]⟩
noncomputable def o288 (P : Params) : Obj := ⟨Value.none, Option.none , Data.fields #[Value.int 121 0, Value.int 4 0, Value.ref 289, Value.int 126 0, Value.int 4 0, Value.ref 296, Value.int 129 0, Value.int 4 0, Value.ref 303], #[]⟩
noncomputable def o289 (P : Params) : Obj := ⟨Value.type "code", Option.none , Data.fields #[Value.str "LayeredFinder" 558, Value.str "LayeredFinder" 559, Value.str "/claim/cut.py" 560, Value.int 117 0, Value.int 0 0, Value.int 0 0, Value.int 0 0, Value.int 0 0, Value.ref 280, Value.bool false, Value.int 181 0, Value.ref 281, Value.none, Value.none, Value.none, Value.none, Value.int 561 0, Value.int 117 0, Value.str "/claim/cut.py" 562], #[]⟩
noncomputable def o290 (P : Params) : Obj := ⟨Value.type "frame", Option.none , Data.plain, #[some (Value.ref 282), some (Value.ref 3), some (Value.ref 279), Option.none , some (Value.str "threepress.matches" 240), Option.none , some (Value.ref 0)]⟩
noncomputable def o291 (P : Params) : Obj := ⟨Value.type "tuple", Option.none , Data.seq #[Value.int 2 568, Value.int 3 569] 0, #[]⟩
noncomputable def o292 (P : Params) : Obj := ⟨Value.type "tuple", Option.none , Data.seq #[Value.int 32768 573, Value.int 32 574] 0, #[]⟩
noncomputable def o293 (P : Params) : Obj := ⟨Value.type "tuple", Option.none , Data.seq #[] 0, #[]⟩
noncomputable def o294 (P : Params) : Obj := ⟨Value.none, Option.none , Data.fields #[], #[]⟩
noncomputable def o295 (P : Params) : Obj := ⟨Value.none, Option.none , fD "__init__" "LayeredFinder.__init__" (pM 10 2) 0 [] Value.none Value.none Value.none Value.none (Option.none ) Value.none Value.none 0, #[]⟩
noncomputable def o296 (P : Params) : Obj := ⟨Value.type "code", Option.none , Data.fields #[Value.str "__init__" 575, Value.str "LayeredFinder.__init__" 576, Value.str "/claim/cut.py" 577, Value.int 121 0, Value.int 4 0, Value.int 0 0, Value.int 0 0, Value.int 3 0, Value.ref 286, Value.bool true, Value.int 181 0, Value.ref 287, Value.none, Value.none, Value.none, Value.ref 288, Value.int 578 0, Value.int 121 0, Value.str "/claim/cut.py" 579], #[]⟩
noncomputable def o297 (P : Params) : Obj := ⟨Value.type "function", Option.none , fD "__init__" "LayeredFinder.__init__" (pM 10 2) 3 [] (Value.ref 285) Value.none Value.none (Value.str "threepress.matches" 240) (Option.none ) (Value.ref 289) Value.none 0, #[]⟩
noncomputable def o298 (P : Params) : Obj := ⟨Value.type "tuple", Option.none , Data.seq #[] 0, #[]⟩
noncomputable def o299 (P : Params) : Obj := ⟨Value.none, Option.none , Data.fields #[], #[]⟩
noncomputable def o300 (P : Params) : Obj := ⟨Value.type "tuple", Option.none , Data.seq #[Value.str "self" 584, Value.str "place" 585] 0, #[]⟩
noncomputable def o301 (P : Params) : Obj := ⟨Value.type "tuple", Option.none , Data.seq #[] 0, #[]⟩
noncomputable def o302 (P : Params) : Obj := ⟨Value.none, Option.none , fD "enter" "LayeredFinder.enter" (pM 10 3) 0 [] Value.none Value.none Value.none Value.none (Option.none ) Value.none Value.none 0, #[]⟩
noncomputable def o303 (P : Params) : Obj := ⟨Value.type "code", Option.none , Data.fields #[Value.str "enter" 581, Value.str "LayeredFinder.enter" 582, Value.str "/claim/cut.py" 583, Value.int 126 0, Value.int 2 0, Value.int 0 0, Value.int 0 0, Value.int 3 0, Value.ref 291, Value.bool true, Value.int 181 0, Value.ref 292, Value.none, Value.ref 293, Value.ref 294, Value.ref 295, Value.int 586 0, Value.int 126 0, Value.str "/claim/cut.py" 587], #[]⟩
noncomputable def o304 (P : Params) : Obj := ⟨Value.type "function", Option.none , fD "enter" "LayeredFinder.enter" (pM 10 3) 3 [] Value.none Value.none Value.none (Value.str "threepress.matches" 240) (Option.none ) (Value.ref 296) Value.none 0, #[]⟩
noncomputable def o305 (P : Params) : Obj := ⟨Value.type "tuple", Option.none , Data.seq #[] 0, #[]⟩
noncomputable def o306 (P : Params) : Obj := ⟨Value.none, Option.none , Data.fields #[], #[]⟩
noncomputable def o307 (P : Params) : Obj := ⟨Value.type "tuple", Option.none , Data.seq #[Value.str "self" 592, Value.str "place" 593, Value.str "most" 594] 0, #[]⟩
noncomputable def o308 (P : Params) : Obj := ⟨Value.type "tuple", Option.none , Data.seq #[] 0, #[]⟩
noncomputable def o309 (P : Params) : Obj := ⟨Value.none, Option.none , fD "every" "LayeredFinder.every" (pM 10 4) 0 [] Value.none Value.none Value.none Value.none (Option.none ) Value.none Value.none 0, #[]⟩
noncomputable def o310 (P : Params) : Obj := ⟨Value.type "code", Option.none , Data.fields #[Value.str "every" 589, Value.str "LayeredFinder.every" 590, Value.str "/claim/cut.py" 591, Value.int 129 0, Value.int 3 0, Value.int 0 0, Value.int 0 0, Value.int 3 0, Value.ref 298, Value.bool true, Value.int 181 0, Value.ref 299, Value.none, Value.ref 300, Value.ref 301, Value.ref 302, Value.int 595 0, Value.int 129 0, Value.str "/claim/cut.py" 596], #[]⟩
noncomputable def o311 (P : Params) : Obj := ⟨Value.type "function", Option.none , fD "every" "LayeredFinder.every" (pM 10 4) 3 [] Value.none Value.none Value.none (Value.str "threepress.matches" 240) (Option.none ) (Value.ref 303) Value.none 0, #[]⟩
noncomputable def o312 (P : Params) : Obj := ⟨Value.type "tuple", Option.none , Data.seq #[Value.str "rows" 598, Value.str "tree" 599] 0, #[]⟩
noncomputable def o313 (P : Params) : Obj := ⟨Value.type "dict", Option.none , Data.dict #[eS P "__module__" 563 (Value.str "threepress.matches" 240), eS P "__firstlineno__" 567 (Value.int 117 566), eS P "LAYERS" 570 (Value.ref 284), eS P "TREE" 572 (Value.int 4 571), eS P "__init__" 580 (Value.ref 290), eS P "enter" 588 (Value.ref 297), eS P "every" 597 (Value.ref 304), eS P "__static_attributes__" 600 (Value.ref 305), eS P "__doc__" 601 Value.none] 2, #[]⟩
noncomputable def o314 (P : Params) : Obj := ⟨Value.type "type", Option.none , Data.cls ⟨"LayeredFinder", [Value.ref 183], [Value.ref 307, Value.ref 183, Value.type "object"], 306, "LayeredFinder", true, [], [], false, Option.none , false⟩, #[some (Value.ref 277), Option.none , some (Value.str "LayeredFinder" 556), some (Value.str "LayeredFinder" 564), some (Value.builtin "object.__new__"), some (Value.bool true)]⟩
noncomputable def o315 (P : Params) : Obj := ⟨Value.type "super", Option.none , Data.fields #[Value.ref 307, Value.ref 307, Value.ref 307], #[]⟩
noncomputable def o316 (P : Params) : Obj := ⟨Value.type "builtin_function_or_method", Option.none , Data.fields #[Value.builtin "object.__init_subclass__", Value.ref 307], #[]⟩
noncomputable def o317 (P : Params) : Obj := ⟨Value.type "tuple", Option.none , Data.seq #[] 0, #[]⟩
noncomputable def o318 (P : Params) : Obj := ⟨Value.none, Option.none , Data.fields #[], #[]⟩
noncomputable def o319 (P : Params) : Obj := ⟨Value.type "tuple", Option.none , Data.seq #[Value.str "script" 609, Value.str "digits" 610, Value.str "state" 611, Value.str "cell" 612] 0, #[]⟩
noncomputable def o320 (P : Params) : Obj := ⟨Value.type "tuple", Option.none , Data.seq #[] 0, #[]⟩
noncomputable def o321 (P : Params) : Obj := ⟨Value.none, Option.none , fD "_law_box" "_law_box" (pT 12) 0 [] Value.none Value.none Value.none Value.none (Option.none ) Value.none Value.none 0, #[]⟩
noncomputable def o322 (P : Params) : Obj := ⟨Value.type "code", Option.none , Data.fields #[Value.str "_law_box" 606, Value.str "_law_box" 607, Value.str "/claim/cut.py" 608, Value.int 132 0, Value.int 1 0, Value.int 0 0, Value.int 0 0, Value.int 3 0, Value.ref 310, Value.bool true, Value.int 181 0, Value.ref 311, Value.none, Value.ref 312, Value.ref 313, Value.ref 314, Value.int 613 0, Value.int 132 0, Value.str "/claim/cut.py" 614], #[]⟩
noncomputable def o323 (P : Params) : Obj := ⟨Value.type "function", Option.none , fD "_law_box" "_law_box" (pT 12) 3 [] Value.none Value.none Value.none (Value.str "law_tg0038_01" 604) (Option.none ) (Value.ref 315) Value.none 0, #[]⟩
noncomputable def t7 (P : Params) : BT := (N (boot_o_0 P) (N (boot_o_1 P) (N (o281 P) (N (boot_o_7 P) (N (o6 P) (N (o22 P) (N (o59 P) (N (o125 P) (N (o259 P) L L) L) (N (o192 P) L L)) (N (o91 P) (N (o157 P) (N (o294 P) L L) L) (N (o224 P) L L))) (N (o41 P) (N (o75 P) (N (o141 P) (N (o275 P) L L) L) (N (o208 P) L L)) (N (o109 P) (N (o173 P) (N (o310 P) L L) L) (N (o243 P) L L)))) (N (o14 P) (N (o36 P) (N (o67 P) (N (o133 P) (N (o267 P) L L) L) (N (o200 P) L L)) (N (o101 P) (N (o165 P) (N (o302 P) L L) L) (N (o235 P) L L))) (N (o51 P) (N (o83 P) (N (o149 P) (N (o286 P) L L) L) (N (o216 P) L L)) (N (o117 P) (N (o283 P) (N (o318 P) L L) L) (N (o251 P) L L))))) (N (o0 P) (N (o10 P) (N (o26 P) (N (o63 P) (N (o129 P) (N (o263 P) L L) L) (N (o196 P) L L)) (N (o97 P) (N (o161 P) (N (o298 P) L L) L) (N (o228 P) L L))) (N (o45 P) (N (o79 P) (N (o145 P) (N (o279 P) L L) L) (N (o212 P) L L)) (N (o113 P) (N (o177 P) (N (o314 P) L L) L) (N (o247 P) L L)))) (N (o18 P) (N (o37 P) (N (o71 P) (N (o137 P) (N (o271 P) L L) L) (N (o204 P) L L)) (N (o105 P) (N (o169 P) (N (o306 P) L L) L) (N (o239 P) L L))) (N (o55 P) (N (o87 P) (N (o153 P) (N (o290 P) L L) L) (N (o220 P) L L)) (N (o121 P) (N (o185 P) (N (o322 P) L L) L) (N (o255 P) L L)))))) (N (boot_o_5 P) (N (boot_o_9 P) (N (o8 P) (N (o24 P) (N (o61 P) (N (o127 P) (N (o261 P) L L) L) (N (o194 P) L L)) (N (o95 P) (N (o159 P) (N (o296 P) L L) L) (N (o226 P) L L))) (N (o43 P) (N (o77 P) (N (o143 P) (N (o277 P) L L) L) (N (o210 P) L L)) (N (o111 P) (N (o175 P) (N (o312 P) L L) L) (N (o245 P) L L)))) (N (o16 P) (N (o32 P) (N (o69 P) (N (o135 P) (N (o269 P) L L) L) (N (o202 P) L L)) (N (o103 P) (N (o167 P) (N (o304 P) L L) L) (N (o237 P) L L))) (N (o53 P) (N (o85 P) (N (o151 P) (N (o288 P) L L) L) (N (o218 P) L L)) (N (o119 P) (N (o183 P) (N (o320 P) L L) L) (N (o253 P) L L))))) (N (o2 P) (N (o12 P) (N (o28 P) (N (o65 P) (N (o131 P) (N (o265 P) L L) L) (N (o198 P) L L)) (N (o99 P) (N (o163 P) (N (o300 P) L L) L) (N (o233 P) L L))) (N (o47 P) (N (o81 P) (N (o147 P) (N (o284 P) L L) L) (N (o214 P) L L)) (N (o115 P) (N (o179 P) (N (o316 P) L L) L) (N (o249 P) L L)))) (N (o20 P) (N (o39 P) (N (o73 P) (N (o139 P) (N (o273 P) L L) L) (N (o206 P) L L)) (N (o107 P) (N (o171 P) (N (o308 P) L L) L) (N (o241 P) L L))) (N (o57 P) (N (o89 P) (N (o155 P) (N (o292 P) L L) L) (N (o222 P) L L)) (N (o123 P) (N (o190 P) L L) (N (o257 P) L L))))))) (N (boot_o_2 P) (N (boot_o_4 P) (N (boot_o_8 P) (N (o7 P) (N (o23 P) (N (o60 P) (N (o126 P) (N (o260 P) L L) L) (N (o193 P) L L)) (N (o92 P) (N (o158 P) (N (o295 P) L L) L) (N (o225 P) L L))) (N (o42 P) (N (o76 P) (N (o142 P) (N (o276 P) L L) L) (N (o209 P) L L)) (N (o110 P) (N (o174 P) (N (o311 P) L L) L) (N (o244 P) L L)))) (N (o15 P) (N (o31 P) (N (o68 P) (N (o134 P) (N (o268 P) L L) L) (N (o201 P) L L)) (N (o102 P) (N (o166 P) (N (o303 P) L L) L) (N (o236 P) L L))) (N (o52 P) (N (o84 P) (N (o150 P) (N (o287 P) L L) L) (N (o217 P) L L)) (N (o118 P) (N (o182 P) (N (o319 P) L L) L) (N (o252 P) L L))))) (N (o282 P) (N (o11 P) (N (o27 P) (N (o64 P) (N (o130 P) (N (o264 P) L L) L) (N (o197 P) L L)) (N (o98 P) (N (o162 P) (N (o299 P) L L) L) (N (o229 P) L L))) (N (o46 P) (N (o80 P) (N (o146 P) (N (o280 P) L L) L) (N (o213 P) L L)) (N (o114 P) (N (o178 P) (N (o315 P) L L) L) (N (o248 P) L L)))) (N (o19 P) (N (o38 P) (N (o72 P) (N (o138 P) (N (o272 P) L L) L) (N (o205 P) L L)) (N (o106 P) (N (o170 P) (N (o307 P) L L) L) (N (o240 P) L L))) (N (o56 P) (N (o88 P) (N (o154 P) (N (o291 P) L L) L) (N (o221 P) L L)) (N (o122 P) (N (o189 P) (N (o323 P) L L) L) (N (o256 P) L L)))))) (N (boot_o_6 P) (N (boot_o_10 P) (N (o9 P) (N (o25 P) (N (o62 P) (N (o128 P) (N (o262 P) L L) L) (N (o195 P) L L)) (N (o96 P) (N (o160 P) (N (o297 P) L L) L) (N (o227 P) L L))) (N (o44 P) (N (o78 P) (N (o144 P) (N (o278 P) L L) L) (N (o211 P) L L)) (N (o112 P) (N (o176 P) (N (o313 P) L L) L) (N (o246 P) L L)))) (N (o17 P) (N (o33 P) (N (o70 P) (N (o136 P) (N (o270 P) L L) L) (N (o203 P) L L)) (N (o104 P) (N (o168 P) (N (o305 P) L L) L) (N (o238 P) L L))) (N (o54 P) (N (o86 P) (N (o152 P) (N (o289 P) L L) L) (N (o219 P) L L)) (N (o120 P) (N (o184 P) (N (o321 P) L L) L) (N (o254 P) L L))))) (N (o3 P) (N (o13 P) (N (o29 P) (N (o66 P) (N (o132 P) (N (o266 P) L L) L) (N (o199 P) L L)) (N (o100 P) (N (o164 P) (N (o301 P) L L) L) (N (o234 P) L L))) (N (o48 P) (N (o82 P) (N (o148 P) (N (o285 P) L L) L) (N (o215 P) L L)) (N (o116 P) (N (o180 P) (N (o317 P) L L) L) (N (o250 P) L L)))) (N (o21 P) (N (o40 P) (N (o74 P) (N (o140 P) (N (o274 P) L L) L) (N (o207 P) L L)) (N (o108 P) (N (o172 P) (N (o309 P) L L) L) (N (o242 P) L L))) (N (o58 P) (N (o90 P) (N (o156 P) (N (o293 P) L L) L) (N (o223 P) L L)) (N (o124 P) (N (o191 P) L L) (N (o258 P) L L))))))))
theorem r6 (w : World) : (fun os : OsState => PySem.W.Fast.tw10110043849684766642 PySem.W.Fast.tw14364793385576792824 pw w 11 (some (.ref 6)) 1 376 ⟨t6 w.params, 277, {}, ⟨[]⟩, {}, 556, os⟩ (piecesOf (sl 10 3) env0 (.body B0 env0) ⟨97, 0, 116, 17⟩ [topFrame ⟨0, 0, 0, 0⟩])) = fun os => some (Flow.next, ⟨t7 w.params, 317, {}, ⟨[]⟩, {}, 616, os⟩, (.body B0 env0), ⟨132, 0, 139, 26⟩) := by
  kernel_rfl
noncomputable def o324 (P : Params) : Obj := ⟨Value.type "dict", Option.none , Data.dict #[eS P "__name__" 165 (Value.str "law_tg0038_01" 604), eS P "__doc__" 166 Value.none, eS P "__package__" 167 Value.none, eS P "__loader__" 168 (Value.builtin "__main__.__loader__#opaque"), eS P "__spec__" 169 Value.none, eS P "__annotations__" 170 (Value.ref 6), eS P "__builtins__" 171 (Value.ref 4), eS P "__file__" 173 (Value.str "/claim/cut.py" 172), eS P "__cached__" 174 Value.none, eS P "_wall" 193 (Value.ref 21), eS P "PressError" 223 (Value.ref 39), eS P "BadArgument" 239 (Value.ref 52), eS P "NOWHERE" 244 (Value.int (-1) 243), eS P "PlaceRow" 301 (Value.ref 92), eS P "Matcher" 429 (Value.ref 183), eS P "Finder" 485 (Value.ref 226), eS P "TreeFinder" 555 (Value.ref 274), eS P "LayeredFinder" 603 (Value.ref 307), eS P "_law_box" 615 (Value.ref 316), eS P "_law_take" 624 (Value.ref 323), eS P "_law_word" 630 (Value.ref 328), eS P "_law_text" 647 (Value.ref 335), eS P "_law_divisor" 655 (Value.ref 342), eS P "_law_two_right" 666 (Value.ref 349), eS P "_law_times_right" 682 (Value.ref 356), eS P "_law_whole_right" 688 (Value.ref 361), eS P "_law_plain" 704 (Value.ref 368), eS P "law" 710 (Value.ref 373)] 28, #[]⟩
noncomputable def o325 (P : Params) : Obj := ⟨Value.none, Option.none , Data.fields #[Value.int 1 0, Value.int 0 0, Value.ref 20, Value.int 5 0, Value.int 0 0, Value.ref 27, Value.int 10 0, Value.int 0 0, Value.ref 48, Value.int 14 0, Value.int 0 0, Value.ref 60, Value.int 32 0, Value.int 0 0, Value.ref 102, Value.int 83 0, Value.int 0 0, Value.ref 193, Value.int 97 0, Value.int 0 0, Value.ref 234, Value.int 117 0, Value.int 0 0, Value.ref 282, Value.int 132 0, Value.int 0 0, Value.ref 315, Value.int 140 0, Value.int 0 0, Value.ref 322, Value.int 147 0, Value.int 0 0, Value.ref 327, Value.int 150 0, Value.int 0 0, Value.ref 334, Value.int 161 0, Value.int 0 0, Value.ref 341, Value.int 165 0, Value.int 0 0, Value.ref 348, Value.int 172 0, Value.int 0 0, Value.ref 355, Value.int 181 0, Value.int 0 0, Value.ref 360, Value.int 191 0, Value.int 0 0, Value.ref 367, Value.int 200 0, Value.int 0 0, Value.ref 372], #[]⟩
noncomputable def o326 (P : Params) : Obj := ⟨Value.type "tuple", Option.none , Data.seq #[] 0, #[]⟩
noncomputable def o327 (P : Params) : Obj := ⟨Value.none, Option.none , Data.fields #[], #[]⟩
noncomputable def o328 (P : Params) : Obj := ⟨Value.type "tuple", Option.none , Data.seq #[Value.str "box" 619, Value.str "many" 620, Value.str "digit" 621] 0, #[]⟩
noncomputable def o329 (P : Params) : Obj := ⟨Value.type "tuple", Option.none , Data.seq #[] 0, #[]⟩
noncomputable def o330 (P : Params) : Obj := ⟨Value.none, Option.none , fD "_law_take" "_law_take" (pT 13) 0 [] Value.none Value.none Value.none Value.none (Option.none ) Value.none Value.none 0, #[]⟩
noncomputable def o331 (P : Params) : Obj := ⟨Value.type "code", Option.none , Data.fields #[Value.str "_law_take" 616, Value.str "_law_take" 617, Value.str "/claim/cut.py" 618, Value.int 140 0, Value.int 2 0, Value.int 0 0, Value.int 0 0, Value.int 3 0, Value.ref 317, Value.bool true, Value.int 181 0, Value.ref 318, Value.none, Value.ref 319, Value.ref 320, Value.ref 321, Value.int 622 0, Value.int 140 0, Value.str "/claim/cut.py" 623], #[]⟩
noncomputable def o332 (P : Params) : Obj := ⟨Value.type "function", Option.none , fD "_law_take" "_law_take" (pT 13) 3 [] Value.none Value.none Value.none (Value.str "law_tg0038_01" 604) (Option.none ) (Value.ref 322) Value.none 0, #[]⟩
noncomputable def o333 (P : Params) : Obj := ⟨Value.type "tuple", Option.none , Data.seq #[] 0, #[]⟩
noncomputable def o334 (P : Params) : Obj := ⟨Value.none, Option.none , Data.fields #[], #[]⟩
noncomputable def o335 (P : Params) : Obj := ⟨Value.none, Option.none , fD "_law_word" "_law_word" (pT 14) 0 [] Value.none Value.none Value.none Value.none (Option.none ) Value.none Value.none 0, #[]⟩
noncomputable def o336 (P : Params) : Obj := ⟨Value.type "code", Option.none , Data.fields #[Value.str "_law_word" 625, Value.str "_law_word" 626, Value.str "/claim/cut.py" 627, Value.int 147 0, Value.int 2 0, Value.int 0 0, Value.int 0 0, Value.int 3 0, Value.ref 324, Value.bool true, Value.int 181 0, Value.ref 325, Value.none, Value.none, Value.none, Value.ref 326, Value.int 628 0, Value.int 147 0, Value.str "/claim/cut.py" 629], #[]⟩
noncomputable def o337 (P : Params) : Obj := ⟨Value.type "function", Option.none , fD "_law_word" "_law_word" (pT 14) 3 [] Value.none Value.none Value.none (Value.str "law_tg0038_01" 604) (Option.none ) (Value.ref 327) Value.none 0, #[]⟩
noncomputable def o338 (P : Params) : Obj := ⟨Value.type "tuple", Option.none , Data.seq #[] 0, #[]⟩
noncomputable def o339 (P : Params) : Obj := ⟨Value.none, Option.none , Data.fields #[], #[]⟩
noncomputable def o340 (P : Params) : Obj := ⟨Value.type "tuple", Option.none , Data.seq #[Value.str "box" 634, Value.str "most" 635, Value.str "size" 636, Value.str "way" 637, Value.str "word" 638, Value.str "run" 639, Value.str "text" 640, Value.str "begin" 641, Value.str "other" 642, Value.str "spot" 643, Value.str "letter" 644] 0, #[]⟩
noncomputable def o341 (P : Params) : Obj := ⟨Value.type "tuple", Option.none , Data.seq #[] 0, #[]⟩
noncomputable def o342 (P : Params) : Obj := ⟨Value.none, Option.none , fD "_law_text" "_law_text" (pT 15) 0 [] Value.none Value.none Value.none Value.none (Option.none ) Value.none Value.none 0, #[]⟩
noncomputable def o343 (P : Params) : Obj := ⟨Value.type "code", Option.none , Data.fields #[Value.str "_law_text" 631, Value.str "_law_text" 632, Value.str "/claim/cut.py" 633, Value.int 150 0, Value.int 2 0, Value.int 0 0, Value.int 0 0, Value.int 3 0, Value.ref 329, Value.bool true, Value.int 181 0, Value.ref 330, Value.none, Value.ref 331, Value.ref 332, Value.ref 333, Value.int 645 0, Value.int 150 0, Value.str "/claim/cut.py" 646], #[]⟩
noncomputable def o344 (P : Params) : Obj := ⟨Value.type "function", Option.none , fD "_law_text" "_law_text" (pT 15) 3 [] Value.none Value.none Value.none (Value.str "law_tg0038_01" 604) (Option.none ) (Value.ref 334) Value.none 0, #[]⟩
noncomputable def o345 (P : Params) : Obj := ⟨Value.type "tuple", Option.none , Data.seq #[] 0, #[]⟩
noncomputable def o346 (P : Params) : Obj := ⟨Value.none, Option.none , Data.fields #[], #[]⟩
noncomputable def o347 (P : Params) : Obj := ⟨Value.type "tuple", Option.none , Data.seq #[Value.str "one" 651, Value.str "other" 652] 0, #[]⟩
noncomputable def o348 (P : Params) : Obj := ⟨Value.type "tuple", Option.none , Data.seq #[] 0, #[]⟩
noncomputable def o349 (P : Params) : Obj := ⟨Value.none, Option.none , fD "_law_divisor" "_law_divisor" (pT 16) 0 [] Value.none Value.none Value.none Value.none (Option.none ) Value.none Value.none 0, #[]⟩
noncomputable def o350 (P : Params) : Obj := ⟨Value.type "code", Option.none , Data.fields #[Value.str "_law_divisor" 648, Value.str "_law_divisor" 649, Value.str "/claim/cut.py" 650, Value.int 161 0, Value.int 2 0, Value.int 0 0, Value.int 0 0, Value.int 3 0, Value.ref 336, Value.bool true, Value.int 181 0, Value.ref 337, Value.none, Value.ref 338, Value.ref 339, Value.ref 340, Value.int 653 0, Value.int 161 0, Value.str "/claim/cut.py" 654], #[]⟩
noncomputable def o351 (P : Params) : Obj := ⟨Value.type "function", Option.none , fD "_law_divisor" "_law_divisor" (pT 16) 3 [] Value.none Value.none Value.none (Value.str "law_tg0038_01" 604) (Option.none ) (Value.ref 341) Value.none 0, #[]⟩
noncomputable def o352 (P : Params) : Obj := ⟨Value.type "tuple", Option.none , Data.seq #[] 0, #[]⟩
noncomputable def o353 (P : Params) : Obj := ⟨Value.none, Option.none , Data.fields #[], #[]⟩
noncomputable def o354 (P : Params) : Obj := ⟨Value.type "tuple", Option.none , Data.seq #[Value.str "told" 659, Value.str "far" 660, Value.str "near" 661, Value.str "both" 662, Value.str "step" 663] 0, #[]⟩
noncomputable def o355 (P : Params) : Obj := ⟨Value.type "tuple", Option.none , Data.seq #[] 0, #[]⟩
noncomputable def o356 (P : Params) : Obj := ⟨Value.none, Option.none , fD "_law_two_right" "_law_two_right" (pT 17) 0 [] Value.none Value.none Value.none Value.none (Option.none ) Value.none Value.none 0, #[]⟩
noncomputable def o357 (P : Params) : Obj := ⟨Value.type "code", Option.none , Data.fields #[Value.str "_law_two_right" 656, Value.str "_law_two_right" 657, Value.str "/claim/cut.py" 658, Value.int 165 0, Value.int 1 0, Value.int 0 0, Value.int 0 0, Value.int 3 0, Value.ref 343, Value.bool true, Value.int 181 0, Value.ref 344, Value.none, Value.ref 345, Value.ref 346, Value.ref 347, Value.int 664 0, Value.int 165 0, Value.str "/claim/cut.py" 665], #[]⟩
noncomputable def o358 (P : Params) : Obj := ⟨Value.type "function", Option.none , fD "_law_two_right" "_law_two_right" (pT 17) 3 [] Value.none Value.none Value.none (Value.str "law_tg0038_01" 604) (Option.none ) (Value.ref 348) Value.none 0, #[]⟩
noncomputable def o359 (P : Params) : Obj := ⟨Value.type "tuple", Option.none , Data.seq #[] 0, #[]⟩
noncomputable def o360 (P : Params) : Obj := ⟨Value.none, Option.none , Data.fields #[], #[]⟩
noncomputable def o361 (P : Params) : Obj := ⟨Value.type "tuple", Option.none , Data.seq #[Value.str "finder" 670, Value.str "place" 671, Value.str "shape" 672, Value.str "row" 673, Value.str "window" 674, Value.str "longest" 675, Value.str "near" 676, Value.str "times" 677, Value.str "back" 678, Value.str "reach" 679] 0, #[]⟩
noncomputable def o362 (P : Params) : Obj := ⟨Value.type "tuple", Option.none , Data.seq #[] 0, #[]⟩
noncomputable def o363 (P : Params) : Obj := ⟨Value.none, Option.none , fD "_law_times_right" "_law_times_right" (pT 18) 0 [] Value.none Value.none Value.none Value.none (Option.none ) Value.none Value.none 0, #[]⟩
noncomputable def o364 (P : Params) : Obj := ⟨Value.type "code", Option.none , Data.fields #[Value.str "_law_times_right" 667, Value.str "_law_times_right" 668, Value.str "/claim/cut.py" 669, Value.int 172 0, Value.int 4 0, Value.int 0 0, Value.int 0 0, Value.int 3 0, Value.ref 350, Value.bool true, Value.int 181 0, Value.ref 351, Value.none, Value.ref 352, Value.ref 353, Value.ref 354, Value.int 680 0, Value.int 172 0, Value.str "/claim/cut.py" 681], #[]⟩
noncomputable def o365 (P : Params) : Obj := ⟨Value.type "function", Option.none , fD "_law_times_right" "_law_times_right" (pT 18) 3 [] Value.none Value.none Value.none (Value.str "law_tg0038_01" 604) (Option.none ) (Value.ref 355) Value.none 0, #[]⟩
noncomputable def o366 (P : Params) : Obj := ⟨Value.type "tuple", Option.none , Data.seq #[] 0, #[]⟩
noncomputable def o367 (P : Params) : Obj := ⟨Value.none, Option.none , Data.fields #[], #[]⟩
noncomputable def o368 (P : Params) : Obj := ⟨Value.none, Option.none , fD "_law_whole_right" "_law_whole_right" (pT 19) 0 [] Value.none Value.none Value.none Value.none (Option.none ) Value.none Value.none 0, #[]⟩
noncomputable def o369 (P : Params) : Obj := ⟨Value.type "code", Option.none , Data.fields #[Value.str "_law_whole_right" 683, Value.str "_law_whole_right" 684, Value.str "/claim/cut.py" 685, Value.int 181 0, Value.int 3 0, Value.int 0 0, Value.int 0 0, Value.int 3 0, Value.ref 357, Value.bool true, Value.int 181 0, Value.ref 358, Value.none, Value.none, Value.none, Value.ref 359, Value.int 686 0, Value.int 181 0, Value.str "/claim/cut.py" 687], #[]⟩
noncomputable def o370 (P : Params) : Obj := ⟨Value.type "function", Option.none , fD "_law_whole_right" "_law_whole_right" (pT 19) 3 [] Value.none Value.none Value.none (Value.str "law_tg0038_01" 604) (Option.none ) (Value.ref 360) Value.none 0, #[]⟩
noncomputable def o371 (P : Params) : Obj := ⟨Value.type "tuple", Option.none , Data.seq #[] 0, #[]⟩
noncomputable def o372 (P : Params) : Obj := ⟨Value.none, Option.none , Data.fields #[], #[]⟩
noncomputable def o373 (P : Params) : Obj := ⟨Value.type "tuple", Option.none , Data.seq #[Value.str "text" 692, Value.str "place" 693, Value.str "shape" 694, Value.str "window" 695, Value.str "longest" 696, Value.str "found" 697, Value.str "most" 698, Value.str "distance" 699, Value.str "piece" 700, Value.str "count" 701] 0, #[]⟩
noncomputable def o374 (P : Params) : Obj := ⟨Value.type "tuple", Option.none , Data.seq #[] 0, #[]⟩
noncomputable def o375 (P : Params) : Obj := ⟨Value.none, Option.none , fD "_law_plain" "_law_plain" (pT 20) 0 [] Value.none Value.none Value.none Value.none (Option.none ) Value.none Value.none 0, #[]⟩
noncomputable def o376 (P : Params) : Obj := ⟨Value.type "code", Option.none , Data.fields #[Value.str "_law_plain" 689, Value.str "_law_plain" 690, Value.str "/claim/cut.py" 691, Value.int 191 0, Value.int 3 0, Value.int 0 0, Value.int 0 0, Value.int 3 0, Value.ref 362, Value.bool true, Value.int 181 0, Value.ref 363, Value.none, Value.ref 364, Value.ref 365, Value.ref 366, Value.int 702 0, Value.int 191 0, Value.str "/claim/cut.py" 703], #[]⟩
noncomputable def o377 (P : Params) : Obj := ⟨Value.type "function", Option.none , fD "_law_plain" "_law_plain" (pT 20) 3 [] Value.none Value.none Value.none (Value.str "law_tg0038_01" 604) (Option.none ) (Value.ref 367) Value.none 0, #[]⟩
noncomputable def o378 (P : Params) : Obj := ⟨Value.type "tuple", Option.none , Data.seq #[] 0, #[]⟩
noncomputable def o379 (P : Params) : Obj := ⟨Value.none, Option.none , Data.fields #[], #[]⟩
noncomputable def o380 (P : Params) : Obj := ⟨Value.none, Option.none , fD "law" "law" (pT 21) 0 [] Value.none Value.none Value.none Value.none (Option.none ) Value.none Value.none 0, #[]⟩
noncomputable def o381 (P : Params) : Obj := ⟨Value.type "code", Option.none , Data.fields #[Value.str "law" 705, Value.str "law" 706, Value.str "/claim/cut.py" 707, Value.int 200 0, Value.int 1 0, Value.int 0 0, Value.int 0 0, Value.int 3 0, Value.ref 369, Value.bool true, Value.int 181 0, Value.ref 370, Value.none, Value.none, Value.none, Value.ref 371, Value.int 708 0, Value.int 200 0, Value.str "/claim/cut.py" 709], #[]⟩
noncomputable def o382 (P : Params) : Obj := ⟨Value.type "function", Option.none , fD "law" "law" (pT 21) 3 [] Value.none Value.none Value.none (Value.str "law_tg0038_01" 604) (Option.none ) (Value.ref 372) Value.none 0, #[]⟩
noncomputable def t8 (P : Params) : BT := (N (boot_o_0 P) (N (boot_o_1 P) (N (o324 P) (N (boot_o_7 P) (N (o6 P) (N (o22 P) (N (o59 P) (N (o125 P) (N (o259 P) L L) L) (N (o192 P) (N (o328 P) L L) L)) (N (o91 P) (N (o157 P) (N (o294 P) L L) L) (N (o224 P) (N (o360 P) L L) L))) (N (o41 P) (N (o75 P) (N (o141 P) (N (o275 P) L L) L) (N (o208 P) (N (o344 P) L L) L)) (N (o109 P) (N (o173 P) (N (o310 P) L L) L) (N (o243 P) (N (o376 P) L L) L)))) (N (o14 P) (N (o36 P) (N (o67 P) (N (o133 P) (N (o267 P) L L) L) (N (o200 P) (N (o336 P) L L) L)) (N (o101 P) (N (o165 P) (N (o302 P) L L) L) (N (o235 P) (N (o368 P) L L) L))) (N (o51 P) (N (o83 P) (N (o149 P) (N (o286 P) L L) L) (N (o216 P) (N (o352 P) L L) L)) (N (o117 P) (N (o283 P) (N (o318 P) L L) L) (N (o251 P) L L))))) (N (o0 P) (N (o10 P) (N (o26 P) (N (o63 P) (N (o129 P) (N (o263 P) L L) L) (N (o196 P) (N (o332 P) L L) L)) (N (o97 P) (N (o161 P) (N (o298 P) L L) L) (N (o228 P) (N (o364 P) L L) L))) (N (o45 P) (N (o79 P) (N (o145 P) (N (o279 P) L L) L) (N (o212 P) (N (o348 P) L L) L)) (N (o113 P) (N (o177 P) (N (o314 P) L L) L) (N (o247 P) (N (o380 P) L L) L)))) (N (o18 P) (N (o37 P) (N (o71 P) (N (o137 P) (N (o271 P) L L) L) (N (o204 P) (N (o340 P) L L) L)) (N (o105 P) (N (o169 P) (N (o306 P) L L) L) (N (o239 P) (N (o372 P) L L) L))) (N (o55 P) (N (o87 P) (N (o153 P) (N (o290 P) L L) L) (N (o220 P) (N (o356 P) L L) L)) (N (o121 P) (N (o185 P) (N (o322 P) L L) L) (N (o255 P) L L)))))) (N (boot_o_5 P) (N (boot_o_9 P) (N (o8 P) (N (o24 P) (N (o61 P) (N (o127 P) (N (o261 P) L L) L) (N (o194 P) (N (o330 P) L L) L)) (N (o95 P) (N (o159 P) (N (o296 P) L L) L) (N (o226 P) (N (o362 P) L L) L))) (N (o43 P) (N (o77 P) (N (o143 P) (N (o277 P) L L) L) (N (o210 P) (N (o346 P) L L) L)) (N (o111 P) (N (o175 P) (N (o312 P) L L) L) (N (o245 P) (N (o378 P) L L) L)))) (N (o16 P) (N (o32 P) (N (o69 P) (N (o135 P) (N (o269 P) L L) L) (N (o202 P) (N (o338 P) L L) L)) (N (o103 P) (N (o167 P) (N (o304 P) L L) L) (N (o237 P) (N (o370 P) L L) L))) (N (o53 P) (N (o85 P) (N (o151 P) (N (o288 P) L L) L) (N (o218 P) (N (o354 P) L L) L)) (N (o119 P) (N (o183 P) (N (o320 P) L L) L) (N (o253 P) L L))))) (N (o2 P) (N (o12 P) (N (o28 P) (N (o65 P) (N (o131 P) (N (o265 P) L L) L) (N (o198 P) (N (o334 P) L L) L)) (N (o99 P) (N (o163 P) (N (o300 P) L L) L) (N (o233 P) (N (o366 P) L L) L))) (N (o47 P) (N (o81 P) (N (o147 P) (N (o284 P) L L) L) (N (o214 P) (N (o350 P) L L) L)) (N (o115 P) (N (o179 P) (N (o316 P) L L) L) (N (o249 P) (N (o382 P) L L) L)))) (N (o20 P) (N (o39 P) (N (o73 P) (N (o139 P) (N (o273 P) L L) L) (N (o206 P) (N (o342 P) L L) L)) (N (o107 P) (N (o171 P) (N (o308 P) L L) L) (N (o241 P) (N (o374 P) L L) L))) (N (o57 P) (N (o89 P) (N (o155 P) (N (o292 P) L L) L) (N (o222 P) (N (o358 P) L L) L)) (N (o123 P) (N (o190 P) (N (o326 P) L L) L) (N (o257 P) L L))))))) (N (boot_o_2 P) (N (boot_o_4 P) (N (boot_o_8 P) (N (o7 P) (N (o23 P) (N (o60 P) (N (o126 P) (N (o260 P) L L) L) (N (o193 P) (N (o329 P) L L) L)) (N (o92 P) (N (o158 P) (N (o295 P) L L) L) (N (o225 P) (N (o361 P) L L) L))) (N (o42 P) (N (o76 P) (N (o142 P) (N (o276 P) L L) L) (N (o209 P) (N (o345 P) L L) L)) (N (o110 P) (N (o174 P) (N (o311 P) L L) L) (N (o244 P) (N (o377 P) L L) L)))) (N (o15 P) (N (o31 P) (N (o68 P) (N (o134 P) (N (o268 P) L L) L) (N (o201 P) (N (o337 P) L L) L)) (N (o102 P) (N (o166 P) (N (o303 P) L L) L) (N (o236 P) (N (o369 P) L L) L))) (N (o52 P) (N (o84 P) (N (o150 P) (N (o287 P) L L) L) (N (o217 P) (N (o353 P) L L) L)) (N (o118 P) (N (o182 P) (N (o319 P) L L) L) (N (o252 P) L L))))) (N (o325 P) (N (o11 P) (N (o27 P) (N (o64 P) (N (o130 P) (N (o264 P) L L) L) (N (o197 P) (N (o333 P) L L) L)) (N (o98 P) (N (o162 P) (N (o299 P) L L) L) (N (o229 P) (N (o365 P) L L) L))) (N (o46 P) (N (o80 P) (N (o146 P) (N (o280 P) L L) L) (N (o213 P) (N (o349 P) L L) L)) (N (o114 P) (N (o178 P) (N (o315 P) L L) L) (N (o248 P) (N (o381 P) L L) L)))) (N (o19 P) (N (o38 P) (N (o72 P) (N (o138 P) (N (o272 P) L L) L) (N (o205 P) (N (o341 P) L L) L)) (N (o106 P) (N (o170 P) (N (o307 P) L L) L) (N (o240 P) (N (o373 P) L L) L))) (N (o56 P) (N (o88 P) (N (o154 P) (N (o291 P) L L) L) (N (o221 P) (N (o357 P) L L) L)) (N (o122 P) (N (o189 P) (N (o323 P) L L) L) (N (o256 P) L L)))))) (N (boot_o_6 P) (N (boot_o_10 P) (N (o9 P) (N (o25 P) (N (o62 P) (N (o128 P) (N (o262 P) L L) L) (N (o195 P) (N (o331 P) L L) L)) (N (o96 P) (N (o160 P) (N (o297 P) L L) L) (N (o227 P) (N (o363 P) L L) L))) (N (o44 P) (N (o78 P) (N (o144 P) (N (o278 P) L L) L) (N (o211 P) (N (o347 P) L L) L)) (N (o112 P) (N (o176 P) (N (o313 P) L L) L) (N (o246 P) (N (o379 P) L L) L)))) (N (o17 P) (N (o33 P) (N (o70 P) (N (o136 P) (N (o270 P) L L) L) (N (o203 P) (N (o339 P) L L) L)) (N (o104 P) (N (o168 P) (N (o305 P) L L) L) (N (o238 P) (N (o371 P) L L) L))) (N (o54 P) (N (o86 P) (N (o152 P) (N (o289 P) L L) L) (N (o219 P) (N (o355 P) L L) L)) (N (o120 P) (N (o184 P) (N (o321 P) L L) L) (N (o254 P) L L))))) (N (o3 P) (N (o13 P) (N (o29 P) (N (o66 P) (N (o132 P) (N (o266 P) L L) L) (N (o199 P) (N (o335 P) L L) L)) (N (o100 P) (N (o164 P) (N (o301 P) L L) L) (N (o234 P) (N (o367 P) L L) L))) (N (o48 P) (N (o82 P) (N (o148 P) (N (o285 P) L L) L) (N (o215 P) (N (o351 P) L L) L)) (N (o116 P) (N (o180 P) (N (o317 P) L L) L) (N (o250 P) L L)))) (N (o21 P) (N (o40 P) (N (o74 P) (N (o140 P) (N (o274 P) L L) L) (N (o207 P) (N (o343 P) L L) L)) (N (o108 P) (N (o172 P) (N (o309 P) L L) L) (N (o242 P) (N (o375 P) L L) L))) (N (o58 P) (N (o90 P) (N (o156 P) (N (o293 P) L L) L) (N (o223 P) (N (o359 P) L L) L)) (N (o124 P) (N (o191 P) (N (o327 P) L L) L) (N (o258 P) L L))))))))
theorem r7 (w : World) : (fun os : OsState => PySem.W.Fast.tw10110043849684766642 PySem.W.Fast.tw14364793385576792824 pw w 11 (some (.ref 6)) 1 288 ⟨t7 w.params, 317, {}, ⟨[]⟩, {}, 616, os⟩ (piecesOf (sl 13 9) env0 (.body B0 env0) ⟨132, 0, 139, 26⟩ [topFrame ⟨0, 0, 0, 0⟩])) = fun os => some (Flow.next, ⟨t8 w.params, 374, {}, ⟨[]⟩, {}, 711, os⟩, (.body B0 env0), ⟨200, 0, 216, 115⟩) := by
  kernel_rfl
noncomputable def h1 (P : Params) : Heap := ⟨⟨[boot_o_0 P, boot_o_1 P, boot_o_2 P, o324 P, boot_o_4 P, boot_o_5 P, boot_o_6 P, boot_o_7 P, boot_o_8 P, boot_o_9 P, boot_o_10 P, o0 P, o325 P, o2 P, o3 P, o6 P, o7 P, o8 P, o9 P, o10 P, o11 P, o12 P, o13 P, o14 P, o15 P, o16 P, o17 P, o18 P, o19 P, o20 P, o21 P, o22 P, o23 P, o24 P, o25 P, o26 P, o27 P, o28 P, o29 P, o36 P, o31 P, o32 P, o33 P, o37 P, o38 P, o39 P, o40 P, o41 P, o42 P, o43 P, o44 P, o45 P, o46 P, o47 P, o48 P, o51 P, o52 P, o53 P, o54 P, o55 P, o56 P, o57 P, o58 P, o59 P, o60 P, o61 P, o62 P, o63 P, o64 P, o65 P, o66 P, o67 P, o68 P, o69 P, o70 P, o71 P, o72 P, o73 P, o74 P, o75 P, o76 P, o77 P, o78 P, o79 P, o80 P, o81 P, o82 P, o83 P, o84 P, o85 P, o86 P, o87 P, o88 P, o89 P, o90 P, o91 P, o92 P, o95 P, o96 P, o97 P, o98 P, o99 P, o100 P, o101 P, o102 P, o103 P, o104 P, o105 P, o106 P, o107 P, o108 P, o109 P, o110 P, o111 P, o112 P, o113 P, o114 P, o115 P, o116 P, o117 P, o118 P, o119 P, o120 P, o121 P, o122 P, o123 P, o124 P, o125 P, o126 P, o127 P, o128 P, o129 P, o130 P, o131 P, o132 P, o133 P, o134 P, o135 P, o136 P, o137 P, o138 P, o139 P, o140 P, o141 P, o142 P, o143 P, o144 P, o145 P, o146 P, o147 P, o148 P, o149 P, o150 P, o151 P, o152 P, o153 P, o154 P, o155 P, o156 P, o157 P, o158 P, o159 P, o160 P, o161 P, o162 P, o163 P, o164 P, o165 P, o166 P, o167 P, o168 P, o169 P, o170 P, o171 P, o172 P, o173 P, o174 P, o175 P, o176 P, o177 P, o178 P, o179 P, o180 P, o283 P, o182 P, o183 P, o184 P, o185 P, o189 P, o190 P, o191 P, o192 P, o193 P, o194 P, o195 P, o196 P, o197 P, o198 P, o199 P, o200 P, o201 P, o202 P, o203 P, o204 P, o205 P, o206 P, o207 P, o208 P, o209 P, o210 P, o211 P, o212 P, o213 P, o214 P, o215 P, o216 P, o217 P, o218 P, o219 P, o220 P, o221 P, o222 P, o223 P, o224 P, o225 P, o226 P, o227 P, o228 P, o229 P, o233 P, o234 P, o235 P, o236 P, o237 P, o238 P, o239 P, o240 P, o241 P, o242 P, o243 P, o244 P, o245 P, o246 P, o247 P, o248 P, o249 P, o250 P, o251 P, o252 P, o253 P, o254 P, o255 P, o256 P, o257 P, o258 P, o259 P, o260 P, o261 P, o262 P, o263 P, o264 P, o265 P, o266 P, o267 P, o268 P, o269 P, o270 P, o271 P, o272 P, o273 P, o274 P, o275 P, o276 P, o277 P, o278 P, o279 P, o280 P, o284 P, o285 P, o286 P, o287 P, o288 P, o289 P, o290 P, o291 P, o292 P, o293 P, o294 P, o295 P, o296 P, o297 P, o298 P, o299 P, o300 P, o301 P, o302 P, o303 P, o304 P, o305 P, o306 P, o307 P, o308 P, o309 P, o310 P, o311 P, o312 P, o313 P, o314 P, o315 P, o316 P, o317 P, o318 P, o319 P, o320 P, o321 P, o322 P, o323 P, o326 P, o327 P, o328 P, o329 P, o330 P, o331 P, o332 P, o333 P, o334 P, o335 P, o336 P, o337 P, o338 P, o339 P, o340 P, o341 P, o342 P, o343 P, o344 P, o345 P, o346 P, o347 P, o348 P, o349 P, o350 P, o351 P, o352 P, o353 P, o354 P, o355 P, o356 P, o357 P, o358 P, o359 P, o360 P, o361 P, o362 P, o363 P, o364 P, o365 P, o366 P, o367 P, o368 P, o369 P, o370 P, o371 P, o372 P, o373 P, o374 P, o375 P, o376 P, o377 P, o378 P, o379 P, o380 P, o381 P, o382 P]⟩, {}⟩
theorem fin0 (w : World) : (fun os : OsState => topRun treeTable pw w 11 (some (.ref 6)) 2 (SharedT.abs ⟨t8 w.params, 374, {}, ⟨[]⟩, {}, 711, os⟩) ⟨doneF .next, (.body B0 env0), ⟨200, 0, 216, 115⟩, [topFrame ⟨0, 0, 0, 0⟩]⟩) = fun os => some ⟨h1 w.params, ⟨[]⟩, {}, 711, os⟩ := by
  rewrite [PySem.W.Fast.te14082659384304107361, PySem.W.Fast.te14364793385576792824]
  kernel_rfl
theorem body_as : B0 = sl 0 3 ++ (sl 3 3 ++ (sl 6 1 ++ (sl 7 1 ++ (sl 8 1 ++ (sl 9 1 ++ (sl 10 3 ++ (sl 13 9 ++ ([])))))))) := by kernel_rfl
theorem run_all (w : World) (os : OsState) : topRun treeTable pw w 11 (some (.ref 6)) (12 + (1 + (259 + (237 + (323 + (562 + (350 + (388 + (376 + (288 + 2)))))))))) ⟨boot_heap w.params, ⟨[]⟩, boot_drawn, boot_toks, os⟩ (topStub pw) = some ⟨h1 w.params, ⟨[]⟩, {}, 711, os⟩ :=
  go_top (congrFun (pre0 w) os) (piece_block (congrFun (blk0 w) os) (as_list body_as (piece_app (seg_lift (congrFun (r0 w) os)) (piece_app (seg_lift (congrFun (r1 w) os)) (piece_app (seg_lift (congrFun (r2 w) os)) (piece_app (seg_lift (congrFun (r3 w) os)) (piece_app (seg_lift (congrFun (r4 w) os)) (piece_app (seg_lift (congrFun (r5 w) os)) (piece_app (seg_lift (congrFun (r6 w) os)) (piece_app (seg_lift (congrFun (r7 w) os)) (piece_nil (congrFun (fin0 w) os))))))))))))
noncomputable def vw : Program := view pw [0, 2, 3, 5, 6, 7, 8, 9, 10, 12, 13, 14, 15, 16, 17, 18, 19, 20, 21]
abbrev lo : List Str := [Str.ofString "PressError", Str.ofString "Finder", Str.ofString "TreeFinder", Str.ofString "LayeredFinder"]
abbrev rr : RowW := PySem.Challenge.rw_tg0038_01.row.toRowW
noncomputable abbrev xt : Shared → Bool := fun s => xlAt vw [] s && recOk (RowW.records rr) s
theorem size0 (w : World) : ((boot_heap w.params).isNs mainGlobals && (Array.mk ([] : List GenState)).size == 0, (boot_heap w.params).objs.size, (boot_heap w.params).nsMap mainGlobals "__annotations__") = (true, 11, some (Value.ref 6)) := by
  rewrite [PySem.W.Fast.te8920871248978507458]
  kernel_rfl
theorem k1 (w : World) : (fun os : OsState => staticsOk (importedModules pw.main.body) (boot_heap w.params) (h1 w.params) && namesBound pw (h1 w.params) && gensDone ⟨h1 w.params, ⟨[]⟩, {}, 711, os⟩ && laidKept (boot_heap w.params) (h1 w.params)) = fun os => true := by
  rewrite [PySem.W.Fast.te5923862056798008813]
  kernel_rfl
theorem k2 (w : World) : (fun os : OsState => PyProof.Rows.seen ((recsOf vw).map (·.name)) (ownsOf vw) [] { (⟨h1 w.params, ⟨[]⟩, {}, 711, os⟩ : Shared) with gens := #[] }) = fun os => expectedOf vw := by
  rewrite [PySem.W.Fast.te5160383126252970620, PySem.W.Fast.te3399658132070893891, PySem.W.Fast.te5991557255702980513]
  kernel_rfl
theorem k3 (w : World) : (fun os : OsState => (h1 w.params).bltView) = fun os => bltViewBooted := by
  kernel_rfl
theorem k4 (w : World) : (fun os : OsState => (h1 w.params).keysOk (looseW vw lo) ((recsOf vw).map (·.name)) ((litsOf vw).map (·.1)) ((clssOf vw (looseW vw lo)).map (·.name)) && (h1 w.params).accountedOkI (importedModules pw.main.body) && (h1 w.params).isNs mainGlobals && (h1 w.params).isNs builtinsNs && tablesOk vw (h1 w.params) && xt ⟨h1 w.params, ⟨[]⟩, {}, 711, os⟩ && (if true then (⟨h1 w.params, ⟨[]⟩, {}, 711, os⟩ : Shared).gens.size == 0 else !leftWithCleanup (⟨h1 w.params, ⟨[]⟩, {}, 711, os⟩ : Shared).gens)) = fun os => true := by
  rewrite [PySem.W.Fast.te10880121769531294198, PySem.W.Fast.te821141287760084731, PySem.W.Fast.te3399658132070893891, PySem.W.Fast.te7409074990110511671, PySem.W.Fast.te13664370479719496447, PySem.W.Fast.te14722251495701143533, PySem.W.Fast.te5923862056798008813, PySem.W.Fast.te10994771534591457954]
  kernel_rfl
theorem k5 (w : World) : (fun os : OsState => tabsOk vw ⟨h1 w.params, ⟨[]⟩, {}, 711, os⟩) = fun os => true := by
  rewrite [PySem.W.Fast.te479339242167458305]
  kernel_rfl
theorem k6 (w : World) : (fun os : OsState => pinSeenD vw (drecsOf vw) ⟨h1 w.params, ⟨[]⟩, {}, 711, os⟩) = fun os => pinGoodD (drecsOf vw) := by
  rewrite [PySem.W.Fast.te16090120013241838585, PySem.W.Fast.te3247288618530077131]
  kernel_rfl
theorem k7 (w : World) : (fun os : OsState => plainSeenE vw (looseW vw lo) ⟨h1 w.params, ⟨[]⟩, {}, 711, os⟩) = fun os => plainGoodE vw (looseW vw lo) := by
  rewrite [PySem.W.Fast.te2386780881361962483, PySem.W.Fast.te821141287760084731]
  kernel_rfl
theorem k8 (w : World) : (fun os : OsState => plainSeenD vw lo ⟨h1 w.params, ⟨[]⟩, {}, 711, os⟩) = fun os => plainGoodD vw lo := by
  rewrite [PySem.W.Fast.te11698064438423848299]
  kernel_rfl
theorem k9 (w : World) : (fun os : OsState => wideSeen vw ⟨h1 w.params, ⟨[]⟩, {}, 711, os⟩) = fun os => wideGood vw := by
  rewrite [PySem.W.Fast.te7317090234206586261]
  kernel_rfl
theorem k10 (w : World) : (fun os : OsState => clsSeenW vw lo ⟨h1 w.params, ⟨[]⟩, {}, 711, os⟩) = fun os => clsGoodW vw lo := by
  rewrite [PySem.W.Fast.te7369524293546568484]
  kernel_rfl
theorem looks0 (H : Hook) (hH : ∀ (w : World) (os : OsState), H.obs ⟨h1 w.params, ⟨[]⟩, {}, 711, os⟩ = H.val w) (w : World) : (fun os : OsState => ((staticsOk (importedModules pw.main.body) (boot_heap w.params) (h1 w.params) && namesBound pw (h1 w.params) && gensDone ⟨h1 w.params, ⟨[]⟩, {}, 711, os⟩ && laidKept (boot_heap w.params) (h1 w.params)), openSeen vw lo (importedModules pw.main.body) xt true ⟨h1 w.params, ⟨[]⟩, {}, 711, os⟩, H.obs ⟨h1 w.params, ⟨[]⟩, {}, 711, os⟩)) = fun _ => (true, openGood vw lo, H.val w) :=
  funext fun os => looks_pair (congrFun (k1 w) os) (looks_pair (looks_pair (congrFun (k2 w) os) (looks_pair (congrFun (k3 w) os) (looks_pair (congrFun (k4 w) os) (looks_pair (congrFun (k5 w) os) (looks_pair (congrFun (k6 w) os) (looks_pair (congrFun (k7 w) os) (looks_pair (congrFun (k8 w) os) (looks_pair (congrFun (k9 w) os) (congrFun (k10 w) os))))))))) (hH w os))
theorem left (H : Hook) (hH : ∀ (w : World) (os : OsState), H.obs ⟨h1 w.params, ⟨[]⟩, {}, 711, os⟩ = H.val w) : LeftO pw vw lo xt H.obs H.val 5676 :=
  LeftO.of_pieces (boot_open (by kernel_rfl) (by kernel_rfl) (fun s => by kernel_rfl)) size0 run_all (by kernel_rfl) (looks0 H hH)
local macro_rules | `(tactic| o_head $H) => `(tactic| (refine holds_open (q := vw) (loose := lo) (Xt := xt) (XP := XL vw []) (Yf := Hook.obs $H) (Ya := Hook.val $H) (YP := Hook.says $H) (N := 5676) (left $H (fun w os => by kernel_rfl)) (Hook.of $H) (Hook.keeps $H) (fun s e => xl_of s (Bool.and_eq_true_iff.mp e).1) XL.keeps (by rfl) (by rfl) (by rfl) (fun s e => recFacts_of (Bool.and_eq_true_iff.mp e).2) (by rfl) (by first | assumption | decide +kernel) (by decide +kernel) ⟨rfl, rfl, rfl, rfl, rfl, by decide +kernel⟩ ?hw ?hc))
theorem ws : OpenLaw.wellSaid PySem.Challenge.rw_tg0038_01 = true := by kernel_rfl
local macro_rules | `(tactic| o_law) => `(tactic| refine holds_law ws fun said => ?_)
open_top hd for PySem.Challenge.rw_tg0038_01
end Head
end Mine
namespace Mine
/-- `p` is a period of `f` on the places from `s` to below `e` -/
def Per (f : Nat → Int) (s e p : Nat) : Prop := ∀ x, s ≤ x → x + p < e → f x = f (x + p)
theorem Per.mul {f : Nat → Int} {s e p : Nat} (h : Per f s e p) : ∀ k x, s ≤ x → x + k * p < e → f x = f (x + k * p)
  | 0, x, _, _ => by simp
  | k + 1, x, h1, h2 => by
    have e1 : (k + 1) * p = k * p + p := Nat.succ_mul k p
    rw [e1] at h2 ⊢
    rw [Per.mul h k x h1 (by omega), h (x + k * p) (by omega) (by omega), Nat.add_assoc]
theorem Per.sub {f : Nat → Int} {s e p s' e' : Nat} (h : Per f s e p) (h1 : s ≤ s') (h2 : e' ≤ e) : Per f s' e' p := fun x a b => h x (by omega) (by omega)
theorem per_dvd {f : Nat → Int} {s e d p : Nat} (h : Per f s e d) (hd : d ∣ p) : Per f s e p := by
  obtain ⟨k, rfl⟩ := hd
  intro x a b
  rw [Nat.mul_comm] at b ⊢
  exact h.mul k x a b
/-- Fine and Wilf -/
theorem fineWilf {f : Nat → Int} : ∀ (n : Nat) (p q s e : Nat), p + q ≤ n → 1 ≤ p → 1 ≤ q → Per f s e p → Per f s e q → s + p + q ≤ e + Nat.gcd p q → Per f s e (Nat.gcd p q)
  | 0, p, q, _, _, h, hp, _, _, _, _ => by omega
  | n + 1, p, q, s, e, h, hp, hq, P, Q, hl => by
    have main : ∀ p q : Nat, p + q ≤ n + 1 → 1 ≤ p → p < q → Per f s e p → Per f s e q → s + p + q ≤ e + Nat.gcd p q → Per f s e (Nat.gcd p q) := by
      intro p q h hp hpq P Q hl
      have hg : Nat.gcd p (q - p) = Nat.gcd p q := Nat.gcd_sub_self_right (Nat.le_of_lt hpq)
      have hdp : Nat.gcd p q ∣ p := Nat.gcd_dvd_left p q
      have hdq : Nat.gcd p q ∣ q := Nat.gcd_dvd_right p q
      have hd1 : 1 ≤ Nat.gcd p q := Nat.gcd_pos_of_pos_left q hp
      have hle : Nat.gcd p q ≤ p := Nat.le_of_dvd hp hdp
      have hqd : p + Nat.gcd p q ≤ q := by
        obtain ⟨a, ha⟩ := hdp
        obtain ⟨b, hb⟩ := hdq
        have : a < b := by
          apply Nat.lt_of_not_le
          intro hba
          have := Nat.mul_le_mul_left (Nat.gcd p q) hba
          omega
        have := Nat.mul_le_mul_left (Nat.gcd p q) (Nat.succ_le_of_lt this)
        rw [Nat.mul_succ] at this
        omega
      have hn : s + 2 * p ≤ e := by omega
      have P' : Per f s (e - p) p := P.sub (Nat.le_refl _) (by omega)
      have Q' : Per f s (e - p) (q - p) := fun x a b => by
        have h1 := Q x a (by omega)
        have h2 := P (x + (q - p)) (by omega) (by omega)
        rw [h1, h2]; congr 1; omega
      have ih := fineWilf n p (q - p) s (e - p) (by omega) hp (by omega) P' Q' (by rw [hg]; omega)
      rw [hg] at ih
      generalize hdd : Nat.gcd p q = d at *
      intro x a b
      by_cases c1 : x + d < e - p
      · exact ih x a c1
      · have e2 := P (x + d - p) (by omega) (by omega)
        rw [show x + d - p + p = x + d by omega] at e2
        rw [← e2]
        by_cases c2 : e - p ≤ x
        · have e3 := P (x - p) (by omega) (by omega)
          rw [show x - p + p = x by omega] at e3
          have e4 := ih (x - p) (by omega) (by omega)
          rw [← e3, e4]; congr 1; omega
        · obtain ⟨k, hk⟩ := hdp
          have hk1 : 1 ≤ k := by
            cases k with
            | zero => omega
            | succ k => omega
          have e5 : p - d = (k - 1) * d := by
            rw [Nat.sub_mul, hk, Nat.mul_comm d k]; simp
          have e6 := ih.mul (k - 1) (x + d - p) (by omega) (by rw [← e5]; omega)
          rw [e6, ← e5]; congr 1; omega
    rcases Nat.lt_trichotomy p q with c | c | c
    · exact main p q h hp c P Q hl
    · subst c; rw [Nat.gcd_self]; exact P
    · rw [Nat.gcd_comm]; exact main q p (by omega) hq c Q P (by rw [Nat.gcd_comm]; omega)

/-- so many places from `i` on are alike with those from `j` on, up to `lim` -/
structure IsAl (f : Nat → Int) (i j lim c : Nat) : Prop where
  le : c ≤ lim
  eq : ∀ x, x < c → f (i + x) = f (j + x)
  ne : c < lim → f (i + c) ≠ f (j + c)
theorem IsAl.uniq {f : Nat → Int} {i j lim c d : Nat} (h : IsAl f i j lim c) (h' : IsAl f i j lim d) : c = d := by
  rcases Nat.lt_trichotomy c d with q | q | q
  · exact absurd (h'.eq c q) (h.ne (Nat.lt_of_lt_of_le q h'.le))
  · exact q
  · exact absurd (h.eq d q) (h'.ne (Nat.lt_of_lt_of_le q h.le))
/-- the octets go on at this distance just so far -/
def Go (f : Nat → Int) (place dist lim c : Nat) : Prop := IsAl f place (place - dist) lim c
theorem Go.per {f : Nat → Int} {place dist lim c : Nat} (h : Go f place dist lim c) (hd : dist ≤ place) : Per f (place - dist) (place + c) dist := fun x a b => by
  have := h.eq (x + dist - place) (by omega)
  rw [show place + (x + dist - place) = x + dist by omega, show place - dist + (x + dist - place) = x by omega] at this
  exact this.symm
/-- the law's first question -/
theorem two_right {f : Nat → Int} {place near far lim a b c : Nat} (h1 : 1 ≤ near) (h2 : near < far) (h3 : far ≤ place) (ha : Go f place near lim a) (hb : Go f place far lim b) (hc : Go f place (Nat.gcd far near) lim c)
    (hge : far ≤ min a b + Nat.gcd far near) : c = min a b := by
  have hdn : Nat.gcd far near ∣ near := Nat.gcd_dvd_right far near
  have hdf : Nat.gcd far near ∣ far := Nat.gcd_dvd_left far near
  have hd1 : 1 ≤ Nat.gcd far near := Nat.gcd_pos_of_pos_right far h1
  have hle : Nat.gcd far near ≤ near := Nat.le_of_dvd h1 hdn
  have Pn : Per f (place - near) (place + min a b) near := (ha.per (by omega)).sub (Nat.le_refl _) (by omega)
  have Pf : Per f (place - near) (place + min a b) far := (hb.per h3).sub (by omega) (by omega)
  have G : Per f (place - near) (place + min a b) (Nat.gcd far near) := by
    have := fineWilf (far + near) far near (place - near) (place + min a b) (Nat.le_refl _) (by omega) h1 Pf Pn (by omega)
    exact this
  refine hc.uniq ⟨?_, ?_, ?_⟩
  · have := ha.le; omega
  · intro x hx
    have := G (place - Nat.gcd far near + x) (by omega) (by omega)
    rw [this]; congr 1; omega
  · intro hlt heq
    have ha' := ha.le
    have hb' := hb.le
    -- the place behind is alike with the one before by the divisor, so by both distances
    have key : ∀ k q, q = k * Nat.gcd far near → Nat.gcd far near ≤ q → q ≤ near ∨ (q ≤ far ∧ q ≤ min a b + near) → f (place + min a b) = f (place + min a b - q) := by
      intro k q hq hq1 hq2
      have hk1 : 1 ≤ k := by
        cases k with
        | zero => simp at hq; omega
        | succ k => omega
      have e5 : q - Nat.gcd far near = (k - 1) * Nat.gcd far near := by rw [Nat.sub_mul, hq]; simp
      have e6 := G.mul (k - 1) (place + min a b - q) (by omega) (by rw [← e5]; omega)
      rw [e6, ← e5, show place + min a b - q + (q - Nat.gcd far near) = place - Nat.gcd far near + min a b by omega]
      exact heq
    rcases Nat.le_total a b with q | q
    · have hm : min a b = a := Nat.min_eq_left q
      rw [hm] at hlt key
      obtain ⟨k, hk⟩ := hdn
      have := key k near (by rw [Nat.mul_comm]; exact hk) hle (.inl (Nat.le_refl _))
      refine ha.ne hlt ?_
      rw [this]; congr 1; omega
    · have hm : min a b = b := Nat.min_eq_right q
      rw [hm] at hlt key hge
      obtain ⟨k, hk⟩ := hdf
      have := key k far (by rw [Nat.mul_comm]; exact hk) (by omega) (.inr ⟨Nat.le_refl _, by omega⟩)
      refine hb.ne hlt ?_
      rw [this]; congr 1; omega
/-- the law's second question -/
theorem times_right {f : Nat → Int} {place near k lim reach a b : Nat} (h1 : 1 ≤ near) (hk : 1 ≤ k) (h2 : k * near ≤ place) (hr : Go f (place - (k - 1) * near) near ((k - 1) * near + lim) reach) (hge : (k - 1) * near ≤ reach)
    (ha : Go f place near lim a) (hb : Go f place (k * near) lim b) : reach - (k - 1) * near = a ∧ b = a := by
  have e1 : k * near = (k - 1) * near + near := by
    rw [← Nat.succ_mul]; congr 1; omega
  have hA : reach - (k - 1) * near = a := by
    refine IsAl.uniq ⟨?_, ?_, ?_⟩ ha
    · have := hr.le; omega
    · intro x hx
      have := hr.eq ((k - 1) * near + x) (by omega)
      rw [show place - (k - 1) * near + ((k - 1) * near + x) = place + x by omega, show place - (k - 1) * near - near + ((k - 1) * near + x) = place - near + x by omega] at this
      exact this
    · intro hlt
      have := hr.ne (by omega)
      rw [show place - (k - 1) * near + reach = place + (reach - (k - 1) * near) by omega, show place - (k - 1) * near - near + reach = place - near + (reach - (k - 1) * near) by omega] at this
      exact this
  refine ⟨hA, ?_⟩
  have P : Per f (place - k * near) (place + a) near := by
    have := hr.per (by omega)
    refine this.sub (by omega) (by omega)
  refine IsAl.uniq hb ⟨ha.le, ?_, ?_⟩
  · intro x hx
    have := P.mul k (place - k * near + x) (by omega) (by omega)
    rw [this]; congr 1; omega
  · intro hlt
    have e2 := P.mul (k - 1) (place - k * near + a) (by omega) (by omega)
    rw [e2, show place - k * near + a + (k - 1) * near = place - near + a by omega]
    exact ha.ne hlt
/-- the whole text of `n` octets has this period -/
theorem whole_per {f : Nat → Int} {n d c : Nat} (hd : d ≤ n) (h : Go f d d (n - d) c) : c = n - d ↔ Per f 0 n d := by
  constructor
  · rintro rfl x _ hx
    have := h.eq x (by omega)
    rw [show d - d + x = x by omega, Nat.add_comm] at this
    exact this.symm
  · intro P
    refine IsAl.uniq h ⟨Nat.le_refl _, ?_, fun q => absurd q (Nat.lt_irrefl _)⟩
    intro x hx
    rw [show d - d + x = x by omega, Nat.add_comm]
    exact (P x (Nat.zero_le _) (by omega)).symm
/-- the law's third question: `p` the least period of all up to `most` -/
theorem whole_right {f : Nat → Int} {n p far : Nat} (h1 : 1 ≤ p) (P : Per f 0 n p) (least : ∀ q, 1 ≤ q → q < p → ¬ Per f 0 n q) (hf : 1 ≤ far) (Q : Per f 0 n far) (hl : far + p ≤ n + Nat.gcd far p) : p ∣ far := by
  have G := fineWilf (far + p) far p 0 n (Nat.le_refl _) hf h1 Q P (by omega)
  have hd1 : 1 ≤ Nat.gcd far p := Nat.gcd_pos_of_pos_right far h1
  have hle : Nat.gcd far p ≤ p := Nat.gcd_le_right far h1
  rcases Nat.lt_or_ge (Nat.gcd far p) p with c | c
  · exact absurd G (least _ hd1 c)
  · have : Nat.gcd far p = p := by omega
    rw [← this]; exact Nat.gcd_dvd_left far p
/-- the law's comparing: what follows is the piece, said again and again -/
theorem plain_eq {f : Nat → Int} {place dist c : Nat} (hd : 1 ≤ dist) (h : dist ≤ place) (heq : ∀ x, x < c → f (place + x) = f (place - dist + x % dist)) : ∀ x, x < c → f (place + x) = f (place - dist + x) := by
  intro x hx
  rw [heq x hx]
  by_cases q : x < dist
  · rw [Nat.mod_eq_of_lt q]
  · have e1 := heq (x - dist) (by omega)
    rw [show place + (x - dist) = place - dist + x by omega] at e1
    rw [e1, Nat.mod_eq_sub_mod (by omega)]
theorem plain_at {f : Nat → Int} {place dist c : Nat} (hd : 1 ≤ dist) (h : dist ≤ place) (heq : ∀ x, x < c → f (place + x) = f (place - dist + x)) : ∀ x, x ≤ c → f (place - dist + x) = f (place - dist + x % dist)
  | x, hx => by
    by_cases q : x < dist
    · rw [Nat.mod_eq_of_lt q]
    · have ih := plain_at hd h heq (x - dist) (by omega)
      have e1 := heq (x - dist) (by omega)
      rw [show place + (x - dist) = place - dist + x by omega] at e1
      rw [e1, ih, Nat.mod_eq_sub_mod (a := x) (by omega)]
termination_by x => x
end Mine
open PySem.Calls
namespace Mine
theorem off_all {d : Addr} : ∀ {l : List (Addr × Obj)}, PyProof.Rows.LCg.Off1 d l → ∀ p ∈ l, p.1 ≠ d
  | [], _, _, hp => nomatch hp
  | q :: r, h, p, hp => by
    rcases List.mem_cons.mp hp with rfl | hp
    · exact h.1
    · exact off_all h.2 p hp
theorem all_off {d : Addr} : ∀ {l : List (Addr × Obj)}, (∀ p ∈ l, p.1 ≠ d) → PyProof.Rows.LCg.Off1 d l
  | [], _ => trivial
  | q :: r, h => ⟨h q (.head _), all_off fun p hp => h p (.tail _ hp)⟩
theorem lt_all {d : Addr} {l : List (Addr × Obj)} (h : AllLt d l) : ∀ p ∈ l, p.1 ≠ d := fun p hp => Nat.ne_of_lt (ktn_ltOf h p hp)
theorem fm_lo (a : Int) {n : Int} (h : 1 ≤ n) : 0 ≤ a.fmod n := by
  rw [Int.fmod_eq_emod_of_nonneg _ (by omega)]; exact Int.emod_nonneg _ (by omega)
theorem fm_hi (a : Int) {n : Int} (h : 1 ≤ n) : a.fmod n < n := by
  rw [Int.fmod_eq_emod_of_nonneg _ (by omega)]; exact Int.emod_lt_of_pos _ (by omega)
theorem fd_lo {a n : Int} (ha : 0 ≤ a) (h : 1 ≤ n) : 0 ≤ a.fdiv n := by
  rw [Int.fdiv_eq_ediv_of_nonneg _ (by omega)]; exact Int.ediv_nonneg ha (by omega)
def Hint (_ : OpenLaw) (_ : Params → Frag) (P : Prop) : Prop := P
theorem Hint.out {l : OpenLaw} {f : Params → Frag} {P : Prop} (h : Hint l f P) : P := h
/-- the box of the law: two ints -/
structure BoxOk (d st : Int) : Prop where
  d0 : 0 ≤ d
  s0 : 0 ≤ st
  s1 : st < 2147483647
abbrev boxO (d st : Int) (t1 t2 : Tok) (n : Nat) : Obj := listOf #[.int d t1, .int st t2] n
theorem lt_all1 {d : Addr} {l : List (Addr × Obj)} (h : AllLt d l) : ∀ p ∈ l, p.1 ≠ d + 1 := fun p hp => Nat.ne_of_lt (Nat.lt_succ_of_lt (ktn_ltOf h p hp))
theorem lt_all2 {d : Addr} {l : List (Addr × Obj)} (h : AllLt d l) : ∀ p ∈ l, p.1 ≠ d + 1 + 1 := fun p hp => Nat.ne_of_lt (Nat.lt_succ_of_lt (Nat.lt_succ_of_lt (ktn_ltOf h p hp)))
theorem UpdF.turn {b : Addr} {o : Obj} {news : List (Addr × Obj)} {g : Obj → List (Addr × Obj)} (U : UpdF b o news g) :
    ∃ rest, (∀ p ∈ rest, p.1 ≠ b) ∧ (∀ p, p ∈ (b, o) :: rest → p ∈ news) ∧ (∀ o' p, p ∈ (b, o') :: rest → p ∈ g o') ∧ ∀ o' p, p ∈ g o' → p ∈ (b, o') :: rest := by
  obtain ⟨pre, post, rfl, hg, h1, h2⟩ := U.split
  have key : ∀ (o' : Obj) (q : Addr × Obj), q ∈ (b, o') :: (pre ++ post) → q ∈ pre ++ (b, o') :: post := by
    intro o' q hq
    rcases List.mem_cons.mp hq with rfl | hq
    · exact List.mem_append_right _ (.head _)
    · exact (List.mem_append.mp hq).elim (fun h => List.mem_append_left _ h) fun h => List.mem_append_right _ (.tail _ h)
  refine ⟨pre ++ post, ?_, key o, fun o' p hp => by rw [hg]; exact key o' p hp, ?_⟩
  · intro q hq
    exact (List.mem_append.mp hq).elim (h1 q) (h2 q)
  · intro o' q hq
    rw [hg] at hq
    rcases List.mem_append.mp hq with hq | hq
    · exact .tail _ (List.mem_append_left _ hq)
    · rcases List.mem_cons.mp hq with rfl | hq
      · exact .head _
      · exact .tail _ (List.mem_append_right _ hq)
theorem rep_len (k : Nat) (ns : List Int) : (List.replicate k ns).flatten.length = k * ns.length := by simp
theorem rep_size {k : Int} {ns : List Int} (h1 : (ns.length : Int) ≤ 100) (h2 : k ≤ 100) : (List.replicate k.toNat ns).flatten.length ≤ sizeLine := by
  rw [rep_len, sizeLine_eq]
  have h3 : k.toNat ≤ 100 := by omega
  have h4 : ns.length ≤ 100 := by omega
  exact Nat.le_trans (Nat.mul_le_mul h3 h4) (by decide)
theorem rep_ge {k : Int} {ns : List Int} (h1 : 1 ≤ ns.length) : k ≤ ((List.replicate k.toNat ns).flatten.length : Int) := by
  rw [rep_len]
  have : k.toNat * 1 ≤ k.toNat * ns.length := Nat.mul_le_mul_left _ h1
  omega
theorem rep_le {k : Int} {ns : List Int} {c : Nat} (h1 : ns.length ≤ c) : ((List.replicate k.toNat ns).flatten.length : Int) ≤ k.toNat * c := by
  rw [rep_len]
  have : k.toNat * ns.length ≤ k.toNat * c := Nat.mul_le_mul_left _ h1
  exact_mod_cast this
theorem in_of {ns : List Int} (h : ∀ k ∈ ns, 97 ≤ k ∧ k ≤ 99) : KBa.In ns := fun k hk => by have := h k hk; omega
theorem in_take {ns : List Int} (n : Nat) (h : KBa.In ns) : KBa.In (ns.take n) := fun k hk => h k (List.mem_of_mem_take hk)
theorem in_app {ns ms : List Int} (h : KBa.In ns) (h' : KBa.In ms) : KBa.In (ns ++ ms) := fun k hk => (List.mem_append.mp hk).elim (h k) (h' k)
theorem in_rep {ns : List Int} (n : Nat) (h : KBa.In ns) : KBa.In (List.replicate n ns).flatten := fun k hk => by
  obtain ⟨l, hl, hk⟩ := List.mem_flatten.mp hk
  rw [List.eq_of_mem_replicate hl] at hk
  exact h k hk
theorem in_set {ns : List Int} {i : Nat} {x : Int} (h : KBa.In ns) (hx : 0 ≤ x ∧ x < 256) : KBa.In (ns.set i x) := fun k hk => by
  rcases List.mem_or_eq_of_mem_set hk with h1 | h1
  · exact h k h1
  · rw [h1]; exact hx
theorem rep_geq {k : Int} {ns : List Int} {x : Nat} (_ : x ≤ (List.replicate k.toNat ns).flatten.length) (h1 : 1 ≤ ns.length) : k ≤ ((List.replicate k.toNat ns).flatten.length : Int) := rep_ge h1
/-- what the last turn of a block of draws leaves -/
def TakeEl (g : Obj → List (Addr × Obj)) (lo hi : Int) (y : Value) (nw : List (Addr × Obj)) : Prop :=
  ∃ (k : Int) (t : Tok) (d st : Int) (t1 t2 : Tok) (n : Nat), y = .int k t ∧ lo ≤ k ∧ k ≤ hi ∧ BoxOk d st ∧ nw = g (boxO d st t1 t2 n)
section
variable {prog : Program} {w : World} {A : Around} {h₀ : Heap} {L : Addr} {m : Str → Option Value} {env : Env} {elt : Expr} {x : Str} {scope : Scope} {cl : List (Str × Addr)} {s : Shared} {S : List (Addr × Obj) → Prop} {P : Nat → Value → Prop} {Fin : List Value → List (Addr × Obj) → Prop} {news : List (Addr × Obj)}
theorem comp_inv {n : Nat} (J : Nat → List Value → List (Addr × Obj) → Prop) (h0 : J 0 [] news)
    (turn : ∀ i v ys nw I oI C oC D m₂ h tk (E' : Value → Shared → Prop), i < n → P i v → J i ys nw → LCg.NsObj oC m₂ → m₂ x = some v → Fr h₀ L h m → News h₀ L h ((I, oI) :: (C, oC) :: (D, LCg.lst ys) :: nw) → LCg.Off3 I C D nw → ((@Ne Nat I C) ∧ (@Ne Nat I D) ∧ (@Ne Nat C D)) →
      wpAny (model prog w) A (eval elt (compEnvC scope cl C env)) (LCg.CompEnd h₀ L m { s with heap := h, toks := tk } I oI C oC D (LCg.lst ys) S (fun y nw' => J (i + 1) (ys ++ [y]) nw')) E' { s with heap := h, toks := tk })
    (fin : ∀ ys nw, J n ys nw → Fin ys nw) : LCg.CompRest prog w A h₀ L m env elt x scope cl s S P Fin n 0 [] news := by
  have key : ∀ (j i : Nat) (ys : List Value) (nw : List (Addr × Obj)), i + j = n → J i ys nw → LCg.CompRest prog w A h₀ L m env elt x scope cl s S P Fin j i ys nw := by
    intro j
    induction j with
    | zero =>
      intro i ys nw hi hy
      obtain rfl : i = n := by omega
      exact LCg.CompRest.zero (fin ys nw hy)
    | succ j ih =>
      intro i ys nw hi hy
      refine LCg.CompRest.succ ?_
      intro v I oI C oC D m₂ h tk E' hv hC hx F N off ne
      refine wpAny_mono (turn i v ys nw I oI C oC D m₂ h tk E' (by omega) hv hy hC hx F N off ne) (fun y s₂ hq => ?_) fun _ _ e => e
      obtain ⟨h', tk', nw', e, F', N', off', hS, hJ⟩ := hq
      exact ⟨h', tk', nw', e, F', N', off', hS, ih (i + 1) _ _ (by omega) hJ⟩
  exact key n 0 [] news (by omega) h0
theorem word_rest {n : Nat} {b : Addr} {d st : Int} {t1 t2 : Tok} {nn : Nat} {g : Obj → List (Addr × Obj)} {a : Int} (lo hi : Int) (U : UpdF b (boxO d st t1 t2 nn) news g) (hb : BoxOk d st)
    (turn : ∀ k t ys I oI C oC D m₂ h tk (E' : Value → Shared → Prop) d st t1 t2 nn, BoxOk d st → LCg.NsObj oC m₂ → m₂ x = some (.int k t) → Fr h₀ L h m → News h₀ L h ((I, oI) :: (C, oC) :: (D, LCg.lst ys) :: g (boxO d st t1 t2 nn)) → LCg.Off3 I C D (g (boxO d st t1 t2 nn)) → ((@Ne Nat I C) ∧ (@Ne Nat I D) ∧ (@Ne Nat C D)) →
      wpAny (model prog w) A (eval elt (compEnvC scope cl C env)) (LCg.CompEnd h₀ L m { s with heap := h, toks := tk } I oI C oC D (LCg.lst ys) S (TakeEl g lo hi)) E' { s with heap := h, toks := tk })
    (fin : ∀ ys ns d st t1 t2 nn, IntsAre ys ns → ns.length = n → (∀ k ∈ ns, lo ≤ k ∧ k ≤ hi) → BoxOk d st → Fin ys (g (boxO d st t1 t2 nn))) :
    LCg.CompRest prog w A h₀ L m env elt x scope cl s S (fun i v => ∃ t, v = .int (a + (i : Int)) t) Fin n 0 [] news := by
  refine comp_inv (fun i ys nw => ∃ ns d st t1 t2 nn, IntsAre ys ns ∧ ns.length = i ∧ (∀ k ∈ ns, lo ≤ k ∧ k ≤ hi) ∧ BoxOk d st ∧ nw = g (boxO d st t1 t2 nn)) ?_ ?_ ?_
  · obtain ⟨own, rest, rfl, hg, _⟩ := U.split
    exact ⟨[], d, st, t1, t2, nn, .nil, rfl, (by intro k hk; cases hk), hb, (hg _).symm⟩
  · rintro i v ys nw I oI C oC D m₂ h tk E' hi ⟨t, rfl⟩ ⟨ns, d, st, t1, t2, nn, hy, hl, hr, hb', rfl⟩ hC hx F N off ne
    refine wpAny_mono (turn _ t ys I oI C oC D m₂ h tk E' d st t1 t2 nn hb' hC hx F N off ne) (fun y s₂ hq => ?_) fun _ _ e => e
    obtain ⟨h', tk', nw', e, F', N', off', hS, k, t', d', st', t1', t2', n', rfl, h1, h2, hb'', rfl⟩ := hq
    refine ⟨h', tk', _, e, F', N', off', hS, ns ++ [k], d', st', t1', t2', n', ?_, by simp [hl], ?_, hb'', rfl⟩
    · exact IntsAre.append hy (.cons k t' .nil)
    · intro z hz
      rcases List.mem_append.mp hz with hz | hz
      · exact hr z hz
      · rw [List.mem_singleton.mp hz]; exact ⟨h1, h2⟩
  · rintro ys nw ⟨ns, d, st, t1, t2, nn, hy, hl, hr, hb', rfl⟩
    exact fin ys ns d st t1 t2 nn hy hl hr hb'
end
theorem take_el {h₀ : Heap} {L I C D : Addr} {m : Str → Option Value} {s₁ : Shared} {oI oC oD : Obj} {S : List (Addr × Obj) → Prop} {h' : Heap} {tk : Nat} {all : List (Addr × Obj)} {g : Obj → List (Addr × Obj)} {lo hi k : Int} {t : Tok} {d st : Int} {t1 t2 : Tok} {n : Nat}
    (F : Fr h₀ L h' m) (N : News h₀ L h' all) (sub : ∀ p ∈ (I, oI) :: (C, oC) :: (D, oD) :: g (boxO d st t1 t2 n), p ∈ all) (off : LCg.Off3 I C D (g (boxO d st t1 t2 n))) (hS : S (g (boxO d st t1 t2 n))) (hb : BoxOk d st) (h1 : lo ≤ k) (h2 : k ≤ hi) :
    LCg.CompEnd h₀ L m s₁ I oI C oC D oD S (TakeEl g lo hi) (.int k t) { s₁ with heap := h', toks := tk } :=
  LCg.CompEnd.intro F N _ sub off hS ⟨k, t, d, st, t1, t2, n, rfl, h1, h2, hb, rfl⟩
section
variable {prog : Program} {w : World} {A : Around} {E : Value → Shared → Prop} {s : Shared} {env : Env} {h₀ : Heap} {x : Str} {body : List Stmt} {Q : Flow → Shared → Prop}
/-- a loop over a range that keeps nothing but the ledger -/
theorem for_range {r : Addr} {a₀ b₀ : Int} {t₀ u₀ v₀ : Tok} {n : Nat} {m₀ : Str → Option Value} {news : List (Addr × Obj)} (stored : List Str)
    (hh : A.handled = none) (hr : IsRange s.heap r a₀ b₀ 1 t₀ u₀ v₀) (hsmall : Builtin.Range.small a₀ b₀ 1 = true) (hn : Builtin.Range.rangeSize a₀ b₀ 1 = (n : Int)) (F : Fr h₀ env.locals s.heap m₀) (N : News h₀ env.locals s.heap news)
    (turn : ∀ (k : Int) t (u : Str → Option Value) h tk own, a₀ ≤ k → k < a₀ + (n : Int) → OwnOff own (news.map (·.1)) →
      Fr h₀ env.locals h (fun y => if y = x then some (.int k t) else if stored.contains y then u y else m₀ y) → News h₀ env.locals h (news ++ own) →
      wpAny (model prog w) A (execs body env) (InvPostN h₀ env.locals (KstS (fun _ : Unit => news) (fun _ => []) (fun _ => True) x stored m₀ (fun _ _ => True) []) own (news.map (·.1)) { s with heap := h, toks := tk } Q) E { s with heap := h, toks := tk })
    (done : ∀ (u : Str → Option Value) h tk, Fr h₀ env.locals h (fun y => if y = x then u y else if stored.contains y then u y else m₀ y) → News h₀ env.locals h news → Q .next { s with heap := h, toks := tk }) :
    wpAny (model prog w) A (pyIter (.ref r)) (fun it s₂ => LoopAtV prog w A h₀ env x body Q E it s₂) E s := by
  refine kst_range (σ := Unit) (fun _ => news) (fun _ => []) (fun _ => True) stored (fun _ _ => True) () hh hr hsmall hn F N trivial (fun p hp => nomatch hp) trivial ?_ ?_
  · intro c pre k t u h tk own hk hl hoff _ _ F' N'
    refine wpAny_mono (turn k t u h tk own (by omega) (by omega) hoff F' N') (fun f s₂ p => ?_) fun _ _ e => e
    cases f with
    | ret v => exact p
    | brk => exact p
    | next => exact p
    | cont => exact p
  · intro c u h tk _ _ F' N'
    exact done u h tk F' N'
theorem loop_end {stored : List Str} {m₀ m' : Str → Option Value} {news : List (Addr × Obj)} {L : Addr} {own news' : List (Addr × Obj)} {adr : List Addr} {s₁ : Shared} {h' : Heap} {tk : Nat}
    (F : Fr h₀ L h' m') (N : News h₀ L h' news') (hn : ∀ p ∈ news, p ∈ news') (ho : ∀ p ∈ own, p ∈ news') (ha : news.map (·.1) = adr) (hr : ∀ z, z ≠ x → stored.contains z = false → m' z = m₀ z) :
    InvEndN h₀ L (KstS (fun _ : Unit => news) (fun _ => []) (fun _ => True) x stored m₀ (fun _ _ => True) []) own adr s₁ { s₁ with heap := h', toks := tk } :=
  kst_end () F N hn ho ha trivial (fun p hp => nomatch hp) (fun z h1 _ h3 => hr z h1 h3) trivial
end
abbrev fOf (ks : List Int) : Nat → Int := fun i => ks.getD i 0
/-- what repeat tells -/
structure IsR (ks : List Int) (win place dist most : Int) (c : Nat) : Prop where
  none : dist < 1 ∨ dist > place ∨ dist > win → c = 0
  some : 1 ≤ dist → dist ≤ place → dist ≤ win → Go (fOf ks) place.toNat dist.toNat (min most (ks.length - place)).toNat c
/-- a row that is told: for each distance from 0 to one beyond the place -/
structure IsRow (ks : List Int) (win place most : Int) (is : List Int) : Prop where
  len : (is.length : Int) = place + 2
  row : ∀ j : Nat, j < is.length → ∃ c : Nat, is.getD j 0 = (c : Int) ∧ IsR ks win place j most c
theorem two_law {ks i0 i1 i2 : List Int} {win place most near far : Int} {g : Nat} (h0 : IsRow ks win place most i0) (h1 : IsRow ks win place most i1) (h2 : IsRow ks win place most i2) (hp : 0 ≤ place)
    (hn : 1 ≤ near) (hnf : near < far) (hf : far < place + 2) (hg : g = Nat.gcd far.toNat near.toNat) (hge : far - (g : Int) ≤ min (i0.getD near.toNat 0) (i1.getD far.toNat 0)) :
    i2.getD g 0 = min (i0.getD near.toNat 0) (i1.getD far.toNat 0) := by
  obtain ⟨n, rfl⟩ := Int.eq_ofNat_of_zero_le (show 0 ≤ near by omega)
  obtain ⟨f, rfl⟩ := Int.eq_ofNat_of_zero_le (show 0 ≤ far by omega)
  obtain ⟨p, rfl⟩ := Int.eq_ofNat_of_zero_le hp
  simp only [Int.toNat_natCast] at *
  have hgn : g ≤ n := by rw [hg]; exact Nat.gcd_le_right f (by omega)
  have hg1 : 1 ≤ g := by rw [hg]; exact Nat.gcd_pos_of_pos_right f (by omega)
  have l0 := h0.len
  have l1 := h1.len
  have l2 := h2.len
  obtain ⟨a, ea, ha⟩ := h0.row n (by omega)
  obtain ⟨b, eb, hb⟩ := h1.row f (by omega)
  obtain ⟨c, ec, hc⟩ := h2.row g (by omega)
  rw [ea, eb] at hge ⊢
  rw [ec]
  by_cases q : (f : Int) > p ∨ (f : Int) > win
  · have := hb.none (.inr q)
    omega
  · have hfp : f ≤ p := by omega
    have hfw : (f : Int) ≤ win := by omega
    have A := ha.some (by omega) (by omega) (by omega)
    have B := hb.some (by omega) (by omega) (by omega)
    have C := hc.some (by omega) (by omega) (by omega)
    simp only [Int.toNat_natCast] at A B C
    rw [hg] at C hge
    have := two_right (by omega) (by omega) hfp A B C (by omega)
    omega
theorem two_law' {ks i0 i1 i2 : List Int} {win place most near far : Int} {g : Nat} (h0 : IsRow ks win place most i0) (h1 : IsRow ks win place most i1) (h2 : IsRow ks win place most i2) (hp : 0 ≤ place)
    (hn : 1 ≤ near) (hnf : near < far) (hf : far < place + 2) (hg : g = Nat.gcd far.toNat near.toNat) (hge : far - (g : Int) ≤ if i1.getD far.toNat 0 < i0.getD near.toNat 0 then i1.getD far.toNat 0 else i0.getD near.toNat 0) :
    i2.getD (g : Int).toNat 0 = if i1.getD far.toNat 0 < i0.getD near.toNat 0 then i1.getD far.toNat 0 else i0.getD near.toNat 0 := by
  have e : (if i1.getD far.toNat 0 < i0.getD near.toNat 0 then i1.getD far.toNat 0 else i0.getD near.toNat 0) = min (i0.getD near.toNat 0) (i1.getD far.toNat 0) := by split <;> omega
  rw [e] at hge ⊢
  exact two_law h0 h1 h2 hp hn hnf hf hg hge
theorem times_fact {t n Z : Int} (h2 : 2 ≤ t) (ht : t < 2 + ((Z.fdiv n + 1 - 2).toNat : Int)) (hn : 1 ≤ n) : 0 ≤ (t - 1) * n ∧ (t - 1) * n + n = t * n ∧ t * n ≤ Z ∧ n ≤ (t - 1) * n := by
  have h1 : t ≤ Z.fdiv n := by omega
  rw [Int.fdiv_eq_ediv_of_nonneg _ (by omega)] at h1
  have h3 : t * n ≤ Z / n * n := Int.mul_le_mul_of_nonneg_right h1 (by omega)
  have h4 : Z / n * n ≤ Z := Int.ediv_mul_le Z (by omega)
  have h5 : (t - 1) * n = t * n - n := by rw [Int.sub_mul, Int.one_mul]
  have h6 : 1 * n ≤ (t - 1) * n := Int.mul_le_mul_of_nonneg_right (by omega) (by omega)
  rw [Int.one_mul] at h6
  omega
theorem fd_bd {x n : Int} (hx : 0 ≤ x) (hn : 1 ≤ n) : 0 ≤ x.fdiv n ∧ x.fdiv n ≤ x := by
  rw [Int.fdiv_eq_ediv_of_nonneg _ (by omega)]
  exact ⟨Int.ediv_nonneg hx (by omega), Int.ediv_le_self n hx⟩
theorem fd_small {x n : Int} (hx : 0 ≤ x) (hx2 : x < 1000) (hn : 1 ≤ n) : Builtin.Range.small 2 (x.fdiv n + 1) 1 = true := by
  have := fd_bd hx hn
  exact small_one (by omega) (by omega) (by omega) (by omega)
theorem fd_small1 {x n : Int} (hx : 0 ≤ x) (hx2 : x < 1000) (hn : 1 ≤ n) : Builtin.Range.small 1 (x.fdiv n + 1) 1 = true := by
  have := fd_bd hx hn
  exact small_one (by omega) (by omega) (by omega) (by omega)
theorem half_fact {k x : Int} (h : k < 1 + ((x.fdiv 2 + 1 - 1).toNat : Int)) (hx : 0 ≤ x) : k ≤ x := by
  have := fd_bd hx (show (1 : Int) ≤ 2 by decide)
  omega
theorem times_law {ks i : List Int} {win place most near t : Int} {c : Nat} (hR : IsRow ks win place most i) (hp : 0 ≤ place) (hp1 : place ≤ ks.length) (hm : 0 ≤ most) (hn : 1 ≤ near) (ht : 2 ≤ t) (htp : t * near ≤ place) (htw : t * near ≤ win)
    (h : IsR ks win (place - (t - 1) * near) near ((t - 1) * near + most) c) (hge : (t - 1) * near ≤ c) :
    [(c : Int) - (t - 1) * near, i.getD (t * near).toNat 0] = [i.getD near.toNat 0, i.getD near.toNat 0] := by
  obtain ⟨n, rfl⟩ := Int.eq_ofNat_of_zero_le (show 0 ≤ near by omega)
  obtain ⟨k, rfl⟩ := Int.eq_ofNat_of_zero_le (show 0 ≤ t by omega)
  obtain ⟨p, rfl⟩ := Int.eq_ofNat_of_zero_le hp
  obtain ⟨q, rfl⟩ := Int.eq_ofNat_of_zero_le hm
  have e1 : (k - 1) * n + n = k * n := by
    rw [← Nat.succ_mul]; congr 1; omega
  have hB : ((k : Int) - 1) * (n : Int) = (((k - 1) * n : Nat) : Int) := by
    rw [show ((k : Int) - 1) = ((k - 1 : Nat) : Int) by omega, Int.natCast_mul]
  have hK : (k : Int) * (n : Int) = ((k * n : Nat) : Int) := (Int.natCast_mul k n).symm
  rw [hB] at h hge ⊢
  rw [hK] at htp htw ⊢
  have l := hR.len
  have hnk : n ≤ k * n := by rw [← e1]; exact Nat.le_add_left _ _
  obtain ⟨a, ea, ha⟩ := hR.row n (by omega)
  obtain ⟨b, eb, hb⟩ := hR.row (k * n) (by omega)
  have A := ha.some (by omega) (by omega) (by omega)
  have Bb := hb.some (by omega) (by omega) (by omega)
  have C := h.some (by omega) (by omega) (by omega)
  simp only [Int.toNat_natCast] at A Bb C ⊢
  rw [ea, eb]
  rw [show ((p : Int) - ((k - 1) * n : Nat)).toNat = p - (k - 1) * n by omega, show (min (((k - 1) * n : Nat) + (q : Int)) ((ks.length : Int) - ((p : Int) - ((k - 1) * n : Nat)))).toNat = (k - 1) * n + (min (q : Int) ((ks.length : Int) - p)).toNat by omega] at C
  obtain ⟨h1, h2⟩ := times_right (by omega) (by omega) (by omega) C (by omega) A Bb
  subst h2
  have h3 : (c : Int) - ((k - 1) * n : Nat) = (b : Int) := by omega
  rw [h3]
theorem le_min {t x y : Int} (h : t ≤ if y < x then y else x) : t ≤ x ∧ t ≤ y := by split at h <;> omega
structure CutMark : Prop where
structure BoxMark (b : Addr) (rest : List (Addr × Obj)) : Prop where
/-- what either "if" of the text leaves -/
def MidT (h₀ : Heap) (L : Addr) (m : Str → Option Value) (b : Addr) (rest : List (Addr × Obj)) (s : Shared) (f : Flow) (s' : Shared) : Prop :=
  f = .next ∧ ∃ (D : Addr) (vs : List Value) (ns : List Int) (nn : Nat) (bg : Int) (tg : Tok) (u : Str → Option Value) (d st : Int) (t1 t2 : Tok) (n : Nat) (h' : Heap) (tk' : Nat), s' = { s with heap := h', toks := tk' } ∧ IntsAre vs ns ∧ 5 ≤ ns.length ∧ ns.length ≤ 30 ∧ KBa.In ns ∧ 0 ≤ bg ∧ BoxOk d st ∧ @Ne Nat D b ∧ LCg.Off1 D rest ∧
    Fr h₀ L h' (fun y => if y = Str.ofString "text" then some (.ref D) else if y = Str.ofString "begin" then some (.int bg tg) else if y = Str.ofString "other" then u y else if y = Str.ofString "spot" then u y else if y = Str.ofString "letter" then u y else m y) ∧ News h₀ L h' ((D, listOf vs.toArray nn) :: (b, boxO d st t1 t2 n) :: rest)
theorem cut_mid {prog : Program} {w : World} {A : Around} {E : Value → Shared → Prop} {s : Shared} {env : Env} {h₀ : Heap} {L : Addr} {m : Str → Option Value} {stmt : Stmt} {Q : Flow → Shared → Prop} {b : Addr} {rest : List (Addr × Obj)} (hb : BoxMark b rest) (F : Fr h₀ L s.heap m)
    (h : CutMark → wpAny (model prog w) A (exec stmt env) (MidT h₀ L m b rest s) E s)
    (go : ∀ (D : Addr) (vs : List Value) (ns : List Int) (nn : Nat) (bg : Int) (tg : Tok) (u : Str → Option Value) (d st : Int) (t1 t2 : Tok) (n : Nat) (h' : Heap) (tk' : Nat), IntsAre vs ns → 5 ≤ ns.length → ns.length ≤ 30 → KBa.In ns → 0 ≤ bg → BoxOk d st → @Ne Nat D b → LCg.Off1 D rest →
      Fr h₀ L h' (fun y => if y = Str.ofString "text" then some (.ref D) else if y = Str.ofString "begin" then some (.int bg tg) else if y = Str.ofString "other" then u y else if y = Str.ofString "spot" then u y else if y = Str.ofString "letter" then u y else m y) → News h₀ L h' ((D, listOf vs.toArray nn) :: (b, boxO d st t1 t2 n) :: rest) → Q .next { s with heap := h', toks := tk' }) :
    wpAny (model prog w) A (exec stmt env) Q E s := by
  refine wpAny_mono (h ⟨⟩) (fun f s' hq => ?_) fun _ _ e => e
  obtain ⟨rfl, D, vs, ns, nn, bg, tg, u, d, st, t1, t2, n, h', tk', rfl, h1, h2, h3, h4, h5, h6, h7, h8, F', N'⟩ := hq
  exact go D vs ns nn bg tg u d st t1 t2 n h' tk' h1 h2 h3 h4 h5 h6 h7 h8 F' N'
theorem mid_el {h₀ h' : Heap} {L : Addr} {m m' : Str → Option Value} {b D : Addr} {rest all : List (Addr × Obj)} {s : Shared} {tk' : Nat} {vs : List Value} {ns : List Int} {nn n : Nat} {bg d st : Int} {tg t1 t2 : Tok}
    (F : Fr h₀ L h' m') (ht : m' (Str.ofString "text") = some (.ref D)) (hg : m' (Str.ofString "begin") = some (.int bg tg)) (hm : ∀ z, z ≠ Str.ofString "text" → z ≠ Str.ofString "begin" → z ≠ Str.ofString "other" → z ≠ Str.ofString "spot" → z ≠ Str.ofString "letter" → m' z = m z)
    (N : News h₀ L h' all) (sub : ∀ p ∈ (D, listOf vs.toArray nn) :: (b, boxO d st t1 t2 n) :: rest, p ∈ all) (hi : IntsAre vs ns) (h5 : 5 ≤ ns.length) (h30 : ns.length ≤ 30) (hin : KBa.In ns) (h0 : 0 ≤ bg) (hb : BoxOk d st) (hne : @Ne Nat D b) (off : LCg.Off1 D rest) :
    MidT h₀ L m b rest s .next { s with heap := h', toks := tk' } := by
  refine ⟨rfl, D, vs, ns, nn, bg, tg, m', d, st, t1, t2, n, h', tk', rfl, hi, h5, h30, hin, h0, hb, hne, off, ?_, fun p hp => N p (sub p hp)⟩
  have e : m' = fun y => if y = Str.ofString "text" then some (.ref D) else if y = Str.ofString "begin" then some (.int bg tg) else if y = Str.ofString "other" then m' y else if y = Str.ofString "spot" then m' y else if y = Str.ofString "letter" then m' y else m y := by
    funext y
    by_cases q1 : y = Str.ofString "text"
    · rw [if_pos q1, q1, ht]
    · rw [if_neg q1]
      by_cases q2 : y = Str.ofString "begin"
      · rw [if_pos q2, q2, hg]
      · rw [if_neg q2]
        by_cases q3 : y = Str.ofString "other"
        · rw [if_pos q3]
        · rw [if_neg q3]
          by_cases q4 : y = Str.ofString "spot"
          · rw [if_pos q4]
          · rw [if_neg q4]
            by_cases q5 : y = Str.ofString "letter"
            · rw [if_pos q5]
            · rw [if_neg q5]
              exact hm y q1 q2 q3 q4 q5
  exact e ▸ F
theorem slice_up {prog : Program} {w : World} {A : Around} {E : Value → Shared → Prop} {s : Shared} {h₀ : Heap} {L l : Addr} {m : Str → Option Value} {news : List (Addr × Obj)} {Q : Value → Shared → Prop} {value slice : Expr} {vs : List Value} {ns : List Int} {nn : Nat} {y : Int} {ty : Tok}
    (F : Fr h₀ L s.heap m) (N : News h₀ L s.heap news) (hl : (l, listOf vs.toArray nn) ∈ news) (hi : IntsAre vs ns) (h0 : 0 ≤ y) (hsz : ns.length ≤ sizeLine)
    (h : ∀ D ws h', Fr h₀ L h' m → News h₀ L h' ((D, listOf (List.toArray ws) 0) :: news) → (∀ p ∈ news, p.1 < D) → IntsAre ws (ns.take y.toNat) → (ns.take y.toNat).length ≤ ns.length → Q (.ref D) { s with heap := h' })
    (hs : subscripted slice false (.ref l) (.ref s.heap.objs.size) = operate [.ref s.heap.objs.size, .ref l] (getItem (.ref l) (.ref s.heap.objs.size))) (ht : ∀ r, letTemporaryGo value (.ref l) r = pure ()) :
    wpAny (model prog w) A (subscriptTail value slice (.ref l) (.ref s.heap.objs.size)) Q E { s with heap := s.heap.push { cls := .type "slice", data := .fields #[.none, .int y ty, .none] } } := by
  refine kmk_slice_ints F N (PySem.IsL.isList (n := nn) (N _ hl).1) .none (.int y ty) hi (kmk_upto hi h0) rfl (fun D ws h' F' N' l1 h1 _ h3 => h D ws h' F' N' l1 h1 h3) hs ht ?_
  rw [List.size_toArray, hi.length]
  exact hsz
theorem per_of {ks : List Int} {win d size : Int} {c : Nat} (h : IsR ks win d d size c) (h1 : 1 ≤ d) (h2 : d ≤ win) (h3 : d ≤ size) (hs : size = ks.length) : (c : Int) = size - d ↔ Per (fOf ks) 0 ks.length d.toNat := by
  obtain ⟨n, rfl⟩ := Int.eq_ofNat_of_zero_le (show 0 ≤ d by omega)
  have A := h.some h1 (Int.le_refl _) h2
  subst hs
  simp only [Int.toNat_natCast] at A ⊢
  rw [show (min (ks.length : Int) ((ks.length : Int) - n)).toNat = ks.length - n by omega] at A
  rw [← whole_per (by omega) A]
  omega
/-- what a turn of a block with a test leaves: the int, and that it is one -/
def PerEl (news : List (Addr × Obj)) (k : Int) (hp : Prop) (y : Value) (nw : List (Addr × Obj)) : Prop := (∃ t, y = .int k t) ∧ hp ∧ nw = news
def NoEl (news : List (Addr × Obj)) (hp : Prop) (_ : Value) (nw : List (Addr × Obj)) : Prop := hp ∧ nw = news
section
variable {prog : Program} {w : World} {A : Around} {h₀ : Heap} {L : Addr} {m : Str → Option Value} {env : Env} {ct elt : Expr} {x : Str} {scope : Scope} {cl : List (Str × Addr)} {s : Shared} {S : List (Addr × Obj) → Prop} {Fin : List Value → List (Addr × Obj) → Prop} {news : List (Addr × Obj)}
theorem per_rest {n : Nat} {a : Int} (P : Int → Prop)
    (turn : ∀ k t ys I oI C oC D m₂ h tk (E' : Value → Shared → Prop), a ≤ k → k < a + (n : Int) → LCg.NsObj oC m₂ → m₂ x = some (.int k t) → Fr h₀ L h m → News h₀ L h ((I, oI) :: (C, oC) :: (D, LCg.lst ys) :: news) → LCg.Off3 I C D news → ((@Ne Nat I C) ∧ (@Ne Nat I D) ∧ (@Ne Nat C D)) →
      wpAny (model prog w) A (isTrue ct (compEnvC scope cl C env) (eval ct (compEnvC scope cl C env))) (fun ok s' => if ok = true then
        wpAny (model prog w) A (eval elt (compEnvC scope cl C env)) (LCg.CompEnd h₀ L m { s with heap := h, toks := tk } I oI C oC D (LCg.lst ys) S (PerEl news k (P k))) E' s'
        else LCg.CompEnd h₀ L m { s with heap := h, toks := tk } I oI C oC D (LCg.lst ys) S (NoEl news (¬ P k)) Value.none s') E' { s with heap := h, toks := tk })
    (fin : ∀ ys ns, IntsAre ys ns → (∀ d, d ∈ ns ↔ a ≤ d ∧ d < a + (n : Int) ∧ P d) → (∀ d ∈ ns, ns.getD 0 0 ≤ d) → Fin ys news) : LCt.CompRestT prog w A h₀ L m env ct elt x scope cl s S (fun i v => ∃ t, v = .int (a + (i : Int)) t) Fin n 0 [] news := by
  have key : ∀ (j i : Nat) (ys : List Value) (ns : List Int), i + j = n → IntsAre ys ns → (∀ d, d ∈ ns ↔ a ≤ d ∧ d < a + (i : Int) ∧ P d) → (∀ d ∈ ns, ns.getD 0 0 ≤ d) → LCt.CompRestT prog w A h₀ L m env ct elt x scope cl s S (fun i v => ∃ t, v = .int (a + (i : Int)) t) Fin j i ys news := by
    intro j
    induction j with
    | zero =>
      intro i ys ns hi hy hm hh
      obtain rfl : i = n := by omega
      exact LCt.CompRestT.zero (fin ys ns hy hm hh)
    | succ j ih =>
      intro i ys ns hi hy hm hh
      refine LCt.CompRestT.succ ?_
      rintro v I oI C oC D m₂ h tk E' ⟨t, rfl⟩ hC hx F N off ne
      refine wpAny_mono (turn _ t ys I oI C oC D m₂ h tk E' (by omega) (by omega) hC hx F N off ne) (fun ok s₂ hq => ?_) fun _ _ e => e
      cases ok with
      | true =>
        simp only [if_true] at hq ⊢
        refine wpAny_mono hq (fun y s₃ hq => ?_) fun _ _ e => e
        obtain ⟨h', tk', nw', e, F', N', off', hS, ⟨t', rfl⟩, hp, rfl⟩ := hq
        refine ⟨h', tk', _, e, F', N', off', hS, ih (i + 1) _ (ns ++ [a + (i : Int)]) (by omega) (IntsAre.append hy (.cons _ t' .nil)) ?_ ?_⟩
        · intro d
          rw [List.mem_append, hm d, List.mem_singleton]
          constructor
          · rintro (⟨h1, h2, h3⟩ | rfl)
            · exact ⟨h1, by omega, h3⟩
            · exact ⟨by omega, by omega, hp⟩
          · rintro ⟨h1, h2, h3⟩
            by_cases q : d = a + (i : Int)
            · exact .inr q
            · exact .inl ⟨h1, by omega, h3⟩
        · intro d hd
          cases ns with
          | nil =>
            rw [List.nil_append, List.mem_singleton] at hd
            simp [hd]
          | cons z r =>
            simp only [List.cons_append, List.getD_cons_zero]
            rcases List.mem_append.mp (show d ∈ (z :: r) ++ [a + (i : Int)] from hd) with q | q
            · exact hh d q
            · rw [List.mem_singleton.mp q]
              have := (hm z).mp (.head _)
              omega
      | false =>
        simp only [Bool.false_eq_true, if_false] at hq ⊢
        obtain ⟨h', tk', nw', e, F', N', off', hS, hp, rfl⟩ := hq
        refine ⟨h', tk', _, e, F', N', off', hS, ih (i + 1) _ ns (by omega) hy ?_ hh⟩
        intro d
        rw [hm d]
        constructor
        · rintro ⟨h1, h2, h3⟩
          exact ⟨h1, by omega, h3⟩
        · rintro ⟨h1, h2, h3⟩
          by_cases q : d = a + (i : Int)
          · rw [q] at h3; exact absurd h3 hp
          · exact ⟨h1, by omega, h3⟩
  exact key n 0 [] [] (by omega) .nil (fun d => ⟨fun h => absurd h (List.not_mem_nil), fun h => by omega⟩) fun d hd => absurd hd (List.not_mem_nil)
theorem per_restK {n : Nat} {a : Int} {bs : Array UInt8} {ks : List Int} (_ : KBw.bInts bs = ks)
    (turn : ∀ k t ys I oI C oC D m₂ h tk (E' : Value → Shared → Prop), a ≤ k → k < a + (n : Int) → LCg.NsObj oC m₂ → m₂ x = some (.int k t) → Fr h₀ L h m → News h₀ L h ((I, oI) :: (C, oC) :: (D, LCg.lst ys) :: news) → LCg.Off3 I C D news → ((@Ne Nat I C) ∧ (@Ne Nat I D) ∧ (@Ne Nat C D)) →
      wpAny (model prog w) A (isTrue ct (compEnvC scope cl C env) (eval ct (compEnvC scope cl C env))) (fun ok s' => if ok = true then
        wpAny (model prog w) A (eval elt (compEnvC scope cl C env)) (LCg.CompEnd h₀ L m { s with heap := h, toks := tk } I oI C oC D (LCg.lst ys) S (PerEl news k (Per (fOf ks) 0 ks.length k.toNat))) E' s'
        else LCg.CompEnd h₀ L m { s with heap := h, toks := tk } I oI C oC D (LCg.lst ys) S (NoEl news (¬ Per (fOf ks) 0 ks.length k.toNat)) Value.none s') E' { s with heap := h, toks := tk })
    (fin : ∀ ys ns, IntsAre ys ns → (∀ d, d ∈ ns ↔ a ≤ d ∧ d < a + (n : Int) ∧ Per (fOf ks) 0 ks.length d.toNat) → (∀ d ∈ ns, ns.getD 0 0 ≤ d) → Fin ys news) : LCt.CompRestT prog w A h₀ L m env ct elt x scope cl s S (fun i v => ∃ t, v = .int (a + (i : Int)) t) Fin n 0 [] news :=
  per_rest (fun d => Per (fOf ks) 0 ks.length d.toNat) turn fin
end
theorem per_el {h₀ : Heap} {L I C D : Addr} {m : Str → Option Value} {s₁ : Shared} {oI oC oD : Obj} {S : List (Addr × Obj) → Prop} {h' : Heap} {tk : Nat} {all news : List (Addr × Obj)} {k : Int} {t : Tok} {hp : Prop}
    (F : Fr h₀ L h' m) (N : News h₀ L h' all) (sub : ∀ p ∈ (I, oI) :: (C, oC) :: (D, oD) :: news, p ∈ all) (off : LCg.Off3 I C D news) (hS : S news) (hpp : hp) :
    LCg.CompEnd h₀ L m s₁ I oI C oC D oD S (PerEl news k hp) (.int k t) { s₁ with heap := h', toks := tk } :=
  LCg.CompEnd.intro F N _ sub off hS ⟨⟨t, rfl⟩, hpp, rfl⟩
theorem no_el {h₀ : Heap} {L I C D : Addr} {m : Str → Option Value} {s₁ : Shared} {oI oC oD : Obj} {S : List (Addr × Obj) → Prop} {h' : Heap} {tk : Nat} {all news : List (Addr × Obj)} {y : Value} {hp : Prop}
    (F : Fr h₀ L h' m) (N : News h₀ L h' all) (sub : ∀ p ∈ (I, oI) :: (C, oC) :: (D, oD) :: news, p ∈ all) (off : LCg.Off3 I C D news) (hS : S news) (hpp : hp) :
    LCg.CompEnd h₀ L m s₁ I oI C oC D oD S (NoEl news hp) y { s₁ with heap := h', toks := tk } :=
  LCg.CompEnd.intro F N _ sub off hS ⟨hpp, rfl⟩
theorem first_in {ns : List Int} {P : Int → Prop} (h : 0 < ns.length) (hm : ∀ d, d ∈ ns ↔ P d) : P (ns.getD (Int.toNat 0) 0) := by
  show P (ns.getD 0 0)
  refine (hm _).mp ?_
  cases ns with
  | nil => exact absurd h (Nat.lt_irrefl _)
  | cons z r => simp
theorem whole_law {ks ns : List Int} {size k M : Int} {g : Nat} (hs : size = ks.length) (hm : ∀ d : Int, d ∈ ns ↔ 1 ≤ d ∧ d < M ∧ Per (fOf ks) 0 ks.length d.toNat) (hh : ∀ d ∈ ns, ns.getD 0 0 ≤ d)
    (hf1 : 1 ≤ ns.getD (Int.toNat 0) 0) (hfM : ns.getD (Int.toNat 0) 0 < M) (hfP : Per (fOf ks) 0 ks.length (ns.getD (Int.toNat 0) 0).toNat) (hk1 : 1 ≤ k) (hkM : k < M)
    (hne : ((k.fmod (ns.getD (Int.toNat 0) 0) == 0) != ns.any fun x => x == k) = true) (hg : g = Nat.gcd k.toNat (ns.getD (Int.toNat 0) 0).toNat) (hle : k + ns.getD (Int.toNat 0) 0 - (g : Int) ≤ size) : False := by
  change ∀ d ∈ ns, ns.getD (Int.toNat 0) 0 ≤ d at hh
  generalize ns.getD (Int.toNat 0) 0 = f at *
  obtain ⟨p, rfl⟩ := Int.eq_ofNat_of_zero_le (show 0 ≤ f by omega)
  obtain ⟨q, rfl⟩ := Int.eq_ofNat_of_zero_le (show 0 ≤ k by omega)
  simp only [Int.toNat_natCast] at *
  have hany : (ns.any fun x => x == (q : Int)) = decide ((q : Int) ∈ ns) := by
    rw [Bool.eq_iff_iff]; simp
  have hmod : ((q : Int).fmod (p : Int) == 0) = decide (p ∣ q) := by
    rw [Int.fmod_eq_emod_of_nonneg _ (by omega), Bool.eq_iff_iff]
    simp only [beq_iff_eq, decide_eq_true_eq]
    rw [show (q : Int) % (p : Int) = ((q % p : Nat) : Int) from rfl]
    constructor
    · intro h; exact Nat.dvd_of_mod_eq_zero (by omega)
    · intro h; have := Nat.mod_eq_zero_of_dvd h; omega
  rw [hany, hmod] at hne
  have hiff : p ∣ q ↔ (q : Int) ∈ ns := by
    constructor
    · intro h
      refine (hm _).mpr ⟨hk1, hkM, ?_⟩
      simpa using per_dvd hfP h
    · intro h
      have hP := ((hm _).mp h).2.2
      simp only [Int.toNat_natCast] at hP
      refine whole_right (by omega) hfP ?_ (by omega) hP (by rw [← hg]; omega)
      intro r h1 h2 hr
      have : (r : Int) ∈ ns := (hm _).mpr ⟨by omega, by omega, by simpa using hr⟩
      have := hh _ this
      omega
  by_cases c : p ∣ q
  · have c' := hiff.mp c
    simp [c, c'] at hne
  · have c' : ¬ ((q : Int) ∈ ns) := fun h => c (hiff.mpr h)
    simp [c, c'] at hne
section
variable {prog : Program} {w : World} {A : Around} {E : Value → Shared → Prop} {s : Shared} {env : Env} {h₀ : Heap} {x : Str} {body : List Stmt} {Q : Flow → Shared → Prop}
abbrev GrowS : Type := List Value × List Int × Nat
abbrev growLed (l : Addr) (news : List (Addr × Obj)) (c : GrowS) : List (Addr × Obj) := (l, listOf c.1.toArray c.2.2) :: news
abbrev GrowK (l : Addr) (news : List (Addr × Obj)) (x : Str) (stored : List Str) (m₀ : Str → Option Value) (P : Nat → List Int → Prop) (i : Nat) : (Str → Option Value) → List (Addr × Obj) → Prop :=
  KstS (growLed l news) (fun _ => []) (fun c => IntsAre c.1 c.2.1) x stored m₀ (fun pre c => P pre.length c.2.1) (List.replicate i 0)
/-- a loop over a range that grows one list of ints -/
theorem for_grow {r : Addr} {a₀ b₀ : Int} {t₀ u₀ v₀ : Tok} {n : Nat} {m₀ : Str → Option Value} {l : Addr} {vs₀ : List Value} {ns₀ : List Int} {nn₀ : Nat} {news : List (Addr × Obj)} (stored : List Str) (P : Nat → List Int → Prop)
    (hh : A.handled = none) (hr : IsRange s.heap r a₀ b₀ 1 t₀ u₀ v₀) (hsmall : Builtin.Range.small a₀ b₀ 1 = true) (hn : Builtin.Range.rangeSize a₀ b₀ 1 = (n : Int)) (F : Fr h₀ env.locals s.heap m₀) (N : News h₀ env.locals s.heap ((l, listOf vs₀.toArray nn₀) :: news))
    (hi : IntsAre vs₀ ns₀) (hp : P 0 ns₀)
    (turn : ∀ (i : Nat) (k : Int) t vs ns nn (u : Str → Option Value) h tk own, k = a₀ + (i : Int) → i < n → IntsAre vs ns → P i ns → OwnOff own (l :: news.map (·.1)) →
      Fr h₀ env.locals h (fun y => if y = x then some (.int k t) else if stored.contains y then u y else m₀ y) → News h₀ env.locals h ((l, listOf vs.toArray nn) :: (news ++ own)) →
      wpAny (model prog w) A (execs body env) (InvPostN h₀ env.locals (GrowK l news x stored m₀ P (i + 1)) own (l :: news.map (·.1)) { s with heap := h, toks := tk } Q) E { s with heap := h, toks := tk })
    (done : ∀ (u : Str → Option Value) vs ns nn h tk, IntsAre vs ns → P n ns → Fr h₀ env.locals h (fun y => if y = x then u y else if stored.contains y then u y else m₀ y) → News h₀ env.locals h ((l, listOf vs.toArray nn) :: news) → Q .next { s with heap := h, toks := tk }) :
    wpAny (model prog w) A (pyIter (.ref r)) (fun it s₂ => LoopAtV prog w A h₀ env x body Q E it s₂) E s := by
  refine kst_range (σ := GrowS) (growLed l news) (fun _ => []) (fun c => IntsAre c.1 c.2.1) stored (fun pre c => P pre.length c.2.1) (vs₀, ns₀, nn₀) hh hr hsmall hn F N hi (fun p hp => nomatch hp) hp ?_ ?_
  · intro c pre k t u h tk own hk hl hoff hf hP F' N'
    obtain ⟨vs, ns, nn⟩ := c
    refine wpAny_mono (turn pre.length k t vs ns nn u h tk own hk hl hf hP hoff F' N') (fun f s₂ p => ?_) fun _ _ e => e
    have up : ∀ {s₁ s₂ : Shared}, InvEndN h₀ env.locals (GrowK l news x stored m₀ P (pre.length + 1)) own (l :: news.map (·.1)) s₁ s₂ →
        InvEndN h₀ env.locals (KstS (growLed l news) (fun _ => []) (fun c => IntsAre c.1 c.2.1) x stored m₀ (fun pre c => P pre.length c.2.1) (pre ++ [k])) own (l :: news.map (·.1)) s₁ s₂ := by
      rintro s₁ s₂ ⟨h', tk', m', news', nx, e, F', N', h1, h2, h3, c, rfl, hf, hk, hr, hP⟩
      refine ⟨h', tk', m', news', _, e, F', N', h1, h2, h3, c, rfl, hf, hk, hr, ?_⟩
      simpa using hP
    cases f with
    | ret v => exact p
    | brk => exact p
    | next => exact up p
    | cont => exact up p
  · rintro ⟨vs, ns, nn⟩ u h tk hf hP F' N'
    exact done u vs ns nn h tk hf (by simpa [rangeKs_length] using hP) F' N'
theorem grow_end {stored : List Str} {m₀ m' : Str → Option Value} {l : Addr} {news : List (Addr × Obj)} {L : Addr} {own news' : List (Addr × Obj)} {adr : List Addr} {s₁ : Shared} {h' : Heap} {tk : Nat} {P : Nat → List Int → Prop} {i : Nat} {vs : List Value} {ns : List Int} {nn : Nat}
    (F : Fr h₀ L h' m') (N : News h₀ L h' news') (hn : ∀ p ∈ (l, listOf vs.toArray nn) :: news, p ∈ news') (ho : ∀ p ∈ own, p ∈ news') (ha : l :: news.map (·.1) = adr) (hr : ∀ z, z ≠ x → stored.contains z = false → m' z = m₀ z) (hi : IntsAre vs ns) (hP : P i ns) :
    InvEndN h₀ L (GrowK l news x stored m₀ P i) own adr s₁ { s₁ with heap := h', toks := tk } :=
  kst_end (vs, ns, nn) F N hn ho ha hi (fun p hp => nomatch hp) (fun z h1 _ h3 => hr z h1 h3) (by simpa using hP)
end
theorem drop_one {h₀ h : Heap} {L : Addr} {a : Addr × Obj} {news : List (Addr × Obj)} (N : News h₀ L h (a :: news)) : News h₀ L h news := fun p hp => N p (.tail _ hp)
/-- the rows' items so far: for the distances from 0 to `i` -/
def PlainP (ks : List Int) (win place most : Int) (i : Nat) (is : List Int) : Prop :=
  is.length = i + 1 ∧ ∀ j : Nat, j < is.length → ∃ c : Nat, is.getD j 0 = (c : Int) ∧ IsR ks win place j most c
structure PMark (ks : List Int) (win place most : Int) : Prop where
theorem plain_zero {ks : List Int} {win place most : Int} (_ : PMark ks win place most) : PlainP ks win place most 0 [0] := by
  refine ⟨rfl, fun j hj => ⟨0, ?_, fun _ => rfl, fun h => ?_⟩⟩
  · have : j = 0 := by simp at hj; omega
    subst this; rfl
  · have : j = 0 := by simp at hj; omega
    subst this; exact absurd h (by decide)
structure DMark (k : Int) : Prop where
abbrev cntLim (ks : List Int) (place most : Int) : Nat := (min most ((ks.length : Int) - place)).toNat
/-- so many octets are those of the piece, said again and again -/
structure CntP (ks : List Int) (win place most dist : Int) (c : Nat) : Prop where
  le : c ≤ cntLim ks place most
  eq : ∀ x, x < c → fOf ks (place.toNat + x) = fOf ks (place.toNat - dist.toNat + x % dist.toNat)
  far : 0 < c → dist ≤ place ∧ dist ≤ win
theorem cnt_zero {ks : List Int} {win place most dist : Int} (_ : PMark ks win place most) (_ : DMark dist) : CntP ks win place most dist 0 := ⟨Nat.zero_le _, fun x h => absurd h (Nat.not_lt_zero _), fun h => absurd h (Nat.lt_irrefl _)⟩
theorem clip_in {n : Nat} {x : Int} (h0 : 0 ≤ x) (h1 : x ≤ n) : clipAt n x = x.toNat := by
  unfold clipAt
  rw [if_neg (Int.not_lt.mpr h0), Int.min_eq_left h1, Int.max_eq_right h0]
theorem clip_back {n : Nat} {p k : Int} (h0 : 0 ≤ p) (h1 : p ≤ n) (hk : 1 ≤ k) (hp : k ≤ p) : clipAt n (if p - k > 0 then p - k else 0) = p.toNat - k.toNat := by
  by_cases c : p - k > 0
  · rw [if_pos c, clip_in (Int.le_of_lt c) (by omega)]; omega
  · rw [if_neg c, clip_in (Int.le_refl 0) (Int.natCast_nonneg n)]; omega
theorem piece_fact {pc : Array UInt8} {ks : List Int} {place k : Int} (h : KBw.bInts pc = List.take (clipAt ks.length place - clipAt ks.length (if place - k > 0 then place - k else 0)) (List.drop (clipAt ks.length (if place - k > 0 then place - k else 0)) ks))
    (hp0 : 0 ≤ place) (hp1 : place ≤ ks.length) (hk : 1 ≤ k) : ∃ pl, KBw.bInts pc = pl ∧ pl.length ≤ 1000000 + ks.length ∧ (k ≤ place → (pl.length : Int) = k) ∧ (k ≤ place → ∀ x : Nat, (x : Int) < k → pl.getD x 0 = fOf ks (place.toNat - k.toNat + x)) := by
  refine ⟨_, h, ?_, ?_, ?_⟩
  · rw [List.length_take]; exact Nat.le_trans (Nat.min_le_right _ _) (by rw [List.length_drop]; exact Nat.le_trans (Nat.sub_le _ _) (Nat.le_add_left _ _))
  · intro hkp
    rw [clip_in hp0 hp1, clip_back hp0 hp1 hk hkp, List.length_take, List.length_drop]
    clear h
    omega
  · intro hkp x hx
    rw [clip_in hp0 hp1, clip_back hp0 hp1 hk hkp]
    have e3 : x < place.toNat - (place.toNat - k.toNat) := by omega
    simp only [fOf, List.getD_eq_getElem?_getD, List.getElem?_take, List.getElem?_drop, e3, if_true]
section
variable {prog : Program} {w : World} {A : Around} {E : Value → Shared → Prop} {Q : Flow → Shared → Prop} {s : Shared} {env : Env} {h₀ : Heap} {L : Addr}
abbrev CntPost (h₀ : Heap) (L : Addr) (s : Shared) (news : List (Addr × Obj)) (m₀ : Str → Option Value) (ks : List Int) (win place most dist : Int) (Q : Flow → Shared → Prop) (c : Nat) (tc : Tok) : Flow → Shared → Prop :=
  KswPost (σ := Nat × Tok) h₀ L s (fun _ => news) (fun c => [(Str.ofString "count", Value.int c.1 c.2)]) (fun _ => True) [] m₀ (fun c => CntP ks win place most dist c.1) (fun c => cntLim ks place most - c.1) Q (c, tc)
theorem cnt_while {test : Expr} {body : List Stmt} {pos : Pos} {m₀ : Str → Option Value} {news : List (Addr × Obj)} {ks : List Int} {win place most dist : Int} {t : Tok} (hz : CntP ks win place most dist 0)
    (F : Fr h₀ L s.heap m₀) (N : News h₀ L s.heap news) (hk : m₀ (Str.ofString "count") = some (.int 0 t))
    (turn : ∀ (c : Nat) (tc : Tok) (u : Str → Option Value) h tk, CntP ks win place most dist c → Fr h₀ L h (fun y => if y = Str.ofString "count" then some (.int c tc) else m₀ y) → News h₀ L h news →
      wpAny (model prog w) A (isTrue test env (eval test env)) (fun b s₂ =>
        if b = true then wpAny (model prog w) A (execs body env) (CntPost h₀ L s news m₀ ks win place most dist Q c tc) E s₂ else Q .next s₂) E { s with heap := h, toks := tk })
    (hE : PassesOwn (model prog w) A env E := by passes_own) :
    wpAny (model prog w) A (exec (.While test body [] pos) env) Q E s := by
  refine ksw_while (σ := Nat × Tok) (fun _ => news) (fun c => [(Str.ofString "count", Value.int c.1 c.2)]) (fun _ => True) [] (fun c => CntP ks win place most dist c.1) (fun c => cntLim ks place most - c.1) (0, t) F N trivial (List.forall_mem_cons.mpr ⟨hk, List.forall_mem_nil _⟩) hz ?_ hE
  rintro ⟨c, tc⟩ u h tk _ hP F' N'
  refine turn c tc u h tk hP ?_ N'
  have e : (fun y => if y = Str.ofString "count" then some (Value.int (c : Int) tc) else m₀ y) = kstB (fun z => if ([] : List Str).contains z then u z else m₀ z) [(Str.ofString "count", Value.int (c : Int) tc)] := by
    funext y
    simp [kstB]
  rw [e]; exact F'
theorem cnt_end {m₀ m' : Str → Option Value} {news news' : List (Addr × Obj)} {ks : List Int} {win place most dist : Int} {c : Nat} {tc tc' : Tok} {h' : Heap} {tk : Nat}
    (F : Fr h₀ L h' m') (N : News h₀ L h' news') (hn : ∀ p ∈ news, p ∈ news') (hk : m' (Str.ofString "count") = some (.int ((c : Int) + 1) tc')) (hr : ∀ z, z ≠ Str.ofString "count" → m' z = m₀ z) (hp : CntP ks win place most dist (c + 1)) :
    KswEnd (σ := Nat × Tok) h₀ L s (fun _ => news) (fun c => [(Str.ofString "count", Value.int c.1 c.2)]) (fun _ => True) [] m₀ (fun c => CntP ks win place most dist c.1) (fun c => cntLim ks place most - c.1) (c, tc) { s with heap := h', toks := tk } := by
  refine ksw_end (c + 1, tc') F N hn trivial (List.forall_mem_cons.mpr ⟨?_, List.forall_mem_nil _⟩) (fun z h1 _ => hr z ?_) hp ?_
  · show m' _ = some (.int ((c + 1 : Nat) : Int) tc')
    rw [hk]; rfl
  · exact h1 _ (.head _)
  · have := hp.le
    show cntLim ks place most - (c + 1) < cntLim ks place most - c
    omega
end
theorem idx_fact {c k place win : Int} {n : Nat} (h : k ≤ if win < place then win else place) (hl : k ≤ place → (n : Int) = k) (hk : 1 ≤ k) : c.fmod k < n := by
  have h2 := fm_hi c hk
  have : k ≤ place := by split at h <;> omega
  have := hl this
  omega
theorem plain_len {ks : List Int} {win place most : Int} {i : Nat} {is : List Int} (h : PlainP ks win place most i is) : is.length = i + 1 := h.1
theorem cmod {c k : Nat} : ((c : Int).fmod (k : Int)).toNat = c % k := by
  rw [Int.fmod_eq_emod_of_nonneg _ (by omega), show (c : Int) % (k : Int) = ((c % k : Nat) : Int) from rfl, Int.toNat_natCast]
theorem cnt_more {ks pl : List Int} {win place most dist : Int} {c : Nat} (h : CntP ks win place most dist c) (hp : 0 ≤ place) (hd : 1 ≤ dist) (h1 : dist ≤ if win < place then win else place) (h2 : (c : Int) < if (ks.length : Int) - place < most then (ks.length : Int) - place else most)
    (hl : dist ≤ place → ∀ x : Nat, (x : Int) < dist → pl.getD x 0 = fOf ks (place.toNat - dist.toNat + x)) (he : ks.getD (place + c).toNat 0 = pl.getD ((c : Int).fmod dist).toNat 0) : CntP ks win place most dist (c + 1) := by
  obtain ⟨p, rfl⟩ := Int.eq_ofNat_of_zero_le hp
  obtain ⟨d, rfl⟩ := Int.eq_ofNat_of_zero_le (show 0 ≤ dist by omega)
  have h1' : (d : Int) ≤ p ∧ (d : Int) ≤ win := by split at h1 <;> omega
  rw [cmod, hl h1'.1 _ (by have := Nat.mod_lt c (show d > 0 by omega); omega)] at he
  refine ⟨?_, ?_, fun _ => h1'⟩
  · show c + 1 ≤ (min most ((ks.length : Int) - p)).toNat
    split at h2 <;> omega
  · intro x hx
    by_cases q : x < c
    · exact h.eq x q
    · obtain rfl : x = c := by omega
      simp only [Int.toNat_natCast] at he ⊢
      rw [← he]; rfl
theorem plain_step {ks pl is : List Int} {win place most dist : Int} {i c : Nat} (hP : PlainP ks win place most i is) (hk : dist = 1 + (i : Int)) (h : CntP ks win place most dist c) (hp : 0 ≤ place) (hp1 : place ≤ ks.length) (hm : 0 ≤ most)
    (hl : dist ≤ place → ∀ x : Nat, (x : Int) < dist → pl.getD x 0 = fOf ks (place.toNat - dist.toNat + x))
    (hx : (¬ dist ≤ if win < place then win else place) ∨ (¬ (c : Int) < if (ks.length : Int) - place < most then (ks.length : Int) - place else most) ∨ ks.getD (place + c).toNat 0 ≠ pl.getD ((c : Int).fmod dist).toNat 0) : PlainP ks win place most (i + 1) (is ++ [(c : Int)]) := by
  obtain ⟨hlen, hall⟩ := hP
  refine ⟨by simp [hlen], fun j hj => ?_⟩
  by_cases q : j < is.length
  · obtain ⟨c', e, hr⟩ := hall j q
    refine ⟨c', ?_, hr⟩
    rw [← e]
    simp only [List.getD_eq_getElem?_getD]
    rw [List.getElem?_append_left q]
  · have hj' : j = i + 1 := by simp [hlen] at hj; omega
    refine ⟨c, ?_, ?_⟩
    · simp only [List.getD_eq_getElem?_getD]
      rw [List.getElem?_append_right (by omega), show j - is.length = 0 by omega]
      rfl
    · have hjd : (j : Int) = dist := by omega
      rw [hjd]
      obtain ⟨p, rfl⟩ := Int.eq_ofNat_of_zero_le hp
      obtain ⟨d, rfl⟩ := Int.eq_ofNat_of_zero_le (show 0 ≤ dist by omega)
      refine ⟨fun hn => ?_, fun g1 g2 g3 => ?_⟩
      · by_cases c0 : 0 < c
        · have := h.far c0
          omega
        · omega
      · have heq := plain_eq (f := fOf ks) (place := p) (dist := d) (c := c) (by omega) (by omega) (by simpa using h.eq)
        simp only [Int.toNat_natCast]
        refine ⟨by simpa using h.le, heq, ?_⟩
        intro hlt
        rcases hx with hx | hx | hx
        · split at hx <;> omega
        · split at hx <;> omega
        · rw [cmod, hl g2 _ (by have := Nat.mod_lt c (show d > 0 by omega); omega)] at hx
          simp only [Int.toNat_natCast] at hx
          have hz := plain_at (f := fOf ks) (place := p) (dist := d) (c := c) (by omega) (by omega) heq c (Nat.le_refl _)
          rw [hz]
          exact hx
theorem has_bytes : typeLookup (.type "bytes") "__bytes__" = pure (some (.builtin "bytes.__bytes__")) := by rw [typeLookup_type, builtinLookup_eq_fast]; kernel_rfl
section
variable {prog : Program} {w : World} {A : Around} {E : Value → Shared → Prop} {s : Shared}
theorem bm_self {b : Array UInt8} {t : Tok} {Q : Value → Shared → Prop} (hQ : Q (.bytes b t) s) :
    codeAny (model prog w) A (.call (.builtin "bytes.__new__") ⟨[.type "bytes", .bytes b t], []⟩) (wants Q E) s := by
  refine codeAny_of_tree ?_
  show wpAny _ A.in1 (do checkBuiltinCall "bytes.__new__" ⟨[.type "bytes", .bytes b t], []⟩; again (.builtin "bytes.__new__" ⟨[.type "bytes", .bytes b t], []⟩)) _ _ s
  refine wpAny_bind (wpAny_of_eq (F.bm_newCall _) (wpAny_pure ⟨plainId_quiet F.bm_plain _, codeAny_builtin F.bm_entry ?_⟩))
  rw [Around.under_plainId F.bm_plain _]
  have hT : s.TypeIs (.bytes b t) "bytes" := PySem.W.typeIs_bytes s b t
  unfold Builtin.«bytes.__new__»
  refine wpAny_bind (wpAny_of_eq (a := true) rfl ?_)
  refine bm_if_false rfl ?_
  refine wpAny_bind (wpAny_of_eq F.bm_sub ?_)
  refine bm_if_false rfl ?_
  refine wpAny_bind (wpAny_of_eq (F.bm_bind _) ?_)
  refine wpAny_bind (wpAny_of_eq (a := ()) rfl ?_)
  refine wpAny_bind (wpAny_of_eq (a := ()) rfl ?_)
  refine bm_if_false rfl ?_
  refine wpAny_bind (wpAny_specialOf hT has_bytes ?_)
  refine wpAny_bind (wpAny_rule ?_)
  refine wpAny_bind (wpAny_typeOf hT ?_)
  refine bm_if_true (by decide +kernel) ?_
  exact wpAny_pure hQ
theorem call_bytes_self {b : Array UInt8} {t : Tok} {Q : Value → Shared → Prop} (hQ : Q (.bytes b t) s) : wpAny (model prog w) A (call (.type "bytes") [.bytes b t]) Q E s := by
  refine callType_codes (Q₁ := fun obj s₁ => s₁.TypeIs obj "bytes" ∧ Q obj s₁) F.bm_called (F.bm_typeCall _) F.entry_object_init
    (bm_self ⟨PySem.W.typeIs_bytes _ _ _, hQ⟩) fun obj s₁ h₁ => ?_
  exact ⟨h₁.1, F.args_object_init_2 obj _, object_init_meets F.bm_called.init.lookup F.bm_called.made (by decide) prog w A.in1 _ s₁ ⟨h₁.1, rfl, h₁.2⟩⟩
end
/-- a block over a tuple that stands below: what its source hands on -/
def SrcTup (prog : Program) (w : World) (A : Around) (h₀ : Heap) (L : Addr) (m : Str → Option Value) (env : Env) (elt : Expr) (x : Str) (scope : Scope) (cl : List (Str × Addr)) (Fin : Shared → List Value → List (Addr × Obj) → Prop) (xv : Value) (s₁ : Shared) : Prop :=
  ∃ ax its news, xv = .ref ax ∧ A.handled = none ∧ Fr h₀ L s₁.heap m ∧ News h₀ L s₁.heap news ∧ h₀.IsTuple ax its ∧ its.size ≤ sizeLine ∧
    ∀ s₂ : Shared, (∃ h, s₂ = { s₁ with heap := h }) → LCg.CompRest prog w A h₀ L m env elt x scope cl s₂ (fun _ => True) (fun i v => its[i]? = some v) (Fin s₂) its.size 0 [] news
section
variable {prog : Program} {w : World} {A : Around} {E : Value → Shared → Prop} {s : Shared} {h₀ : Heap} {L : Addr} {m : Str → Option Value} {env : Env}
theorem SrcTup.of {elt : Expr} {x : Str} {scope : Scope} {cl : List (Str × Addr)} {Fin : Shared → List Value → List (Addr × Obj) → Prop} {ax : Addr} {its : Array Value} {news : List (Addr × Obj)} {s₁ : Shared}
    (hh : A.handled = none) (F : Fr h₀ L s₁.heap m) (N : News h₀ L s₁.heap news) (hl : h₀.IsTuple ax its) (hsz : its.size ≤ sizeLine)
    (h : ∀ g, LCg.CompRest prog w A h₀ L m env elt x scope cl { s₁ with heap := g } (fun _ => True) (fun i v => its[i]? = some v) (Fin { s₁ with heap := g }) its.size 0 [] news) :
    SrcTup prog w A h₀ L m env elt x scope cl Fin (.ref ax) s₁ := ⟨ax, its, news, rfl, hh, F, N, hl, hsz, fun _ ⟨g, e⟩ => e ▸ h g⟩
theorem ListComp_Tup {elt iter : Expr} {x : Str} {px : Pos} {scope : Scope} {cl : List (Str × Addr)} {pos : Pos} {Q : Value → Shared → Prop} (F₀ : Fr h₀ L s.heap m)
    (hclos : closureFor scope env = pure cl) (hcell : ∀ y ∈ scope.names, y.2 ≠ .cell) (hkind : scope.kind = .function)
    (hnames : ∀ y ∈ scope.names, y.2 = .local → scope.names.lookup y.1 = some .local) (hx : scope.names.lookup x = some .local)
    (h : wpAny (model prog w) A (eval iter env) (SrcTup prog w A h₀ L m env elt x scope cl (fun s₂ => LCg.FinE h₀ L m s₂ Q)) E s)
    (hs : ∀ x, foldedSetIterable iter env x = pure x := by intro _; rfl) :
    wpAny (model prog w) A (eval (.ListComp elt [⟨.Name x px, iter, [], 0⟩] scope pos) env) Q E s := by
  rw [eval_ListComp]
  refine wpAny_comprehension_free (use := none) rfl hs hclos hkind hnames (wpAny_mono h (fun xv s₁ h₁ => ?_) fun _ _ e => e)
  obtain ⟨ax, its, news, rfl, hh, F, N, S, hsz, R⟩ := h₁
  have hl : s₁.heap.IsTuple ax its := let ⟨o, e, r⟩ := S; ⟨o, F.keep _ _ e, r⟩
  have hlt : ax < s₁.heap.objs.size := by obtain ⟨_, e, _⟩ := hl; exact Heap.lt_size e
  refine wpAny_pyIter_tuple hl ?_
  have up : ∀ b o, s₁.heap.get? b = some o → (s₁.heap.push { cls := .type "tuple_iterator", data := .fields #[.ref ax, .int 0 0] }).get? b = some o := fun b o e => Heap.get?_push_of_some _ e
  refine LCg.block_U (Walks.tuple hh s₁.heap.objs.size ax (Nat.ne_of_lt hlt) its) hsz (fun i h st => by obtain ⟨o, e, _⟩ := st.1; exact ⟨o, e⟩)
    (fun i h h' o nw st e e' k _ _ => ⟨by obtain ⟨o', q, r⟩ := st.1; rw [e] at q; cases q; exact ⟨o, e', r⟩, let ⟨o, q, r⟩ := S; ⟨o, k _ _ q, r⟩⟩) hcell hkind hx
    ⟨⟨_, Heap.get?_push_size _ rfl, rfl, rfl⟩, let ⟨o, q, r⟩ := hl; ⟨o, up _ _ q, r⟩⟩ (fun b hb => ?_)
    (F.keeps up) (N.grown up) (Nat.ne_of_lt F.ns.lt) (next_is_new F) (fun p hp => Nat.ne_of_lt (Heap.lt_size (N p hp).1)) trivial (R _ ⟨_, rfl⟩) ?_
  · show b < (s₁.heap.push _).objs.size
    rw [Heap.size_push]
    rcases List.mem_cons.mp hb with rfl | hb
    · exact Nat.lt_succ_self _
    · rw [List.mem_singleton.mp hb]; exact Nat.lt_succ_of_lt hlt
  · intro D C h' tk m' ys news' F' N' o1 hn hC₀ hD₀ hCL hDL hCD offC fin
    refine ⟨m', hn, fun h'' hs'' => fin D h'' tk (F'.change hs'' hCL hC₀) (fun p hp => ?_) o1⟩
    refine ⟨hs''.extBut _ _ ?_ (N' p hp).1, (N' p hp).2⟩
    rcases List.mem_cons.mp hp with rfl | hp
    · exact Ne.symm hCD
    · exact offC p hp
end
/-- a turn that leaves nothing but garbage -/
def AnyEl (news : List (Addr × Obj)) (_ : Value) (nw : List (Addr × Obj)) : Prop := nw = news
section
variable {prog : Program} {w : World} {A : Around} {h₀ : Heap} {L : Addr} {m : Str → Option Value} {env : Env} {elt : Expr} {x : Str} {scope : Scope} {cl : List (Str × Addr)} {s : Shared} {S : List (Addr × Obj) → Prop} {Fin : List Value → List (Addr × Obj) → Prop} {news : List (Addr × Obj)}
theorem small_rest {its : Array Value} (hits : ∀ (i : Nat) (v : Value), its[i]? = some v → ∃ (z : Int) (t : Tok), v = Value.int z t ∧ 1 ≤ z ∧ z < 100)
    (turn : ∀ z t ys I oI C oC D m₂ h tk (E' : Value → Shared → Prop), 1 ≤ z → z < 100 → LCg.NsObj oC m₂ → m₂ x = some (.int z t) → Fr h₀ L h m → News h₀ L h ((I, oI) :: (C, oC) :: (D, LCg.lst ys) :: news) → LCg.Off3 I C D news → ((@Ne Nat I C) ∧ (@Ne Nat I D) ∧ (@Ne Nat C D)) →
      wpAny (model prog w) A (eval elt (compEnvC scope cl C env)) (LCg.CompEnd h₀ L m { s with heap := h, toks := tk } I oI C oC D (LCg.lst ys) S (AnyEl news)) E' { s with heap := h, toks := tk })
    (fin : ∀ ys, Fin ys news) : LCg.CompRest prog w A h₀ L m env elt x scope cl s S (fun i v => its[i]? = some v) Fin its.size 0 [] news := by
  refine comp_inv (fun _ _ nw => nw = news) rfl ?_ ?_
  · rintro i v ys nw I oI C oC D m₂ h tk E' hi hv rfl hC hx F N off ne
    obtain ⟨z, t, rfl, h1, h2⟩ := hits i v hv
    exact turn z t ys I oI C oC D m₂ h tk E' h1 h2 hC hx F N off ne
  · rintro ys nw rfl
    exact fin ys
end
theorem any_el {h₀ : Heap} {L I C D : Addr} {m : Str → Option Value} {s₁ : Shared} {oI oC oD : Obj} {S : List (Addr × Obj) → Prop} {h' : Heap} {tk : Nat} {all news : List (Addr × Obj)} {y : Value}
    (F : Fr h₀ L h' m) (N : News h₀ L h' all) (sub : ∀ p ∈ (I, oI) :: (C, oC) :: (D, oD) :: news, p ∈ all) (off : LCg.Off3 I C D news) (hS : S news) :
    LCg.CompEnd h₀ L m s₁ I oI C oC D oD S (AnyEl news) y { s₁ with heap := h', toks := tk } :=
  LCg.CompEnd.intro F N _ sub off hS rfl
theorem two_ints {a b : Int} {t u : Tok} (ha : 1 ≤ a ∧ a < 100) (hb : 1 ≤ b ∧ b < 100) : ∀ (i : Nat) (v : Value), (#[Value.int a t, Value.int b u] : Array Value)[i]? = some v → ∃ (z : Int) (t : Tok), v = Value.int z t ∧ 1 ≤ z ∧ z < 100 := by
  intro i v h
  match i with
  | 0 => simp at h; exact ⟨a, t, h.symm, ha⟩
  | 1 => simp at h; exact ⟨b, u, h.symm, hb⟩
  | i + 2 => simp at h
/-- a block whose target is a cell: what is left to do -/
def RestC (prog : Program) (w : World) (A : Around) (h₀ : Heap) (L : Addr) (m : Str → Option Value) (env : Env) (elt : Expr) (x : Str) (scope : Scope) (cl : List (Str × Addr)) (c : Addr) (s : Shared) (S : List (Addr × Obj) → Prop) (P : Nat → Value → Prop)
    (Fin : List Value → List (Addr × Obj) → Prop) : Nat → Nat → List Value → List (Addr × Obj) → Prop
  | 0, _, ys, news => Fin ys news
  | k + 1, i, ys, news => ∀ v I oI C oC D oc h tk (E' : Value → Shared → Prop), P i v → oc.data = .cell (some v) → Fr h₀ L h m → News h₀ L h ((I, oI) :: (C, oC) :: (D, LCg.lst ys) :: (c, oc) :: news) → LCg.Off3 I C D ((c, oc) :: news) → LCg.Off1 c news → ((@Ne Nat I C) ∧ (@Ne Nat I D) ∧ (@Ne Nat C D)) →
      wpAny (model prog w) A (eval elt (compEnvC scope ((x, c) :: cl) C env)) (LCg.CompEnd h₀ L m { s with heap := h, toks := tk } I oI C oC D (LCg.lst ys) (fun _ => True) (fun y nw => ∃ oc' news', nw = (c, oc') :: news' ∧ (∃ v', oc'.data = .cell v') ∧ LCg.Off1 c news' ∧ S news' ∧ RestC prog w A h₀ L m env elt x scope cl c s S P Fin k (i + 1) (ys ++ [y]) news')) E' { s with heap := h, toks := tk }
/-- what the source of such a block hands on -/
def SrcC (prog : Program) (w : World) (A : Around) (h₀ : Heap) (L : Addr) (m : Str → Option Value) (env : Env) (elt : Expr) (x : Str) (scope : Scope) (cl : List (Str × Addr)) (Fin : Shared → List Value → List (Addr × Obj) → Prop) (xv : Value) (s₁ : Shared) : Prop :=
  ∃ ax its k news, xv = .ref ax ∧ A.handled = none ∧ Fr h₀ L s₁.heap m ∧ News h₀ L s₁.heap news ∧ (ax, ({ cls := .type "list", data := .seq its k } : Obj)) ∈ news ∧ its.size ≤ sizeLine ∧
    ∀ g c, LCg.Off1 c news → RestC prog w A h₀ L m env elt x scope cl c { s₁ with heap := g } (LCg.SrcAt h₀ ax its) (fun i v => its[i]? = some v) (Fin { s₁ with heap := g }) its.size 0 [] news
section
variable {prog : Program} {w : World} {A : Around} {E : Value → Shared → Prop} {s : Shared} {h₀ : Heap} {L : Addr} {m : Str → Option Value} {env : Env}
theorem SrcC.of {elt : Expr} {x : Str} {scope : Scope} {cl : List (Str × Addr)} {Fin : Shared → List Value → List (Addr × Obj) → Prop} {ax : Addr} {its : Array Value} {k : Nat} {news : List (Addr × Obj)} {s₁ : Shared}
    (hh : A.handled = none) (F : Fr h₀ L s₁.heap m) (N : News h₀ L s₁.heap news) (hm : (ax, ({ cls := .type "list", data := .seq its k } : Obj)) ∈ news) (hsz : its.size ≤ sizeLine)
    (h : ∀ g c, LCg.Off1 c news → RestC prog w A h₀ L m env elt x scope cl c { s₁ with heap := g } (LCg.SrcAt h₀ ax its) (fun i v => its[i]? = some v) (Fin { s₁ with heap := g }) its.size 0 [] news) :
    SrcC prog w A h₀ L m env elt x scope cl Fin (.ref ax) s₁ := ⟨ax, its, k, news, rfl, hh, F, N, hm, hsz, h⟩
theorem block_C {elt iter : Expr} {x : Str} {px : Pos} {scope : Scope} {cl : List (Str × Addr)} {pos : Pos} {s₂ : Shared} {I : Addr} {fp : List Addr} {n : Nat} {P : Nat → Value → Prop} {St : Nat → Heap → Prop} {S : List (Addr × Obj) → Prop} {news : List (Addr × Obj)}
    {Fin : List Value → List (Addr × Obj) → Prop} {RR : Value → Addr → Result → Shared → Prop}
    (W : Walks prog w A I fp [I] n P St) (hsz : n ≤ sizeLine) (hIo : ∀ i h, St i h → ∃ o, h.get? I = some o)
    (hSt : ∀ i h h' o nw, St i h → h.get? I = some o → h'.get? I = some o → (∀ b o, h₀.get? b = some o → h'.get? b = some o) → News h₀ L h' nw → S nw → St i h')
    (hcf : ∀ n, cellsFrom n scope.names cl = (x, n) :: cl) (hpc : ∀ h : Heap, pushCells h scope.names = h.push { cls := .type "cell", data := .cell none })
    (hkind : scope.kind = .function) (hx : ∀ C c, (compEnvC scope ((x, c) :: cl) C env).kindOf x = some .cell) (hst : St 0 s₂.heap) (hfp : ∀ b ∈ fp, b < s₂.heap.objs.size)
    (F : Fr h₀ L s₂.heap m) (N : News h₀ L s₂.heap news) (hIL : L ≠ I) (hI₀ : h₀.get? I = none) (off : ∀ p ∈ news, p.1 ≠ I) (hS : S news)
    (R : ∀ c, LCg.Off1 c news → RestC prog w A h₀ L m env elt x scope cl c s₂ S P Fin n 0 [] news)
    (hRR : ∀ D C h tk m' ys news', Fr h₀ L h m → News h₀ L h ((D, LCg.lst ys) :: news') → LCg.Off1 D news' → h.Ns C m' → h₀.get? C = none → h₀.get? D = none → C ≠ L → D ≠ L → C ≠ D → (∀ p ∈ news', p.1 ≠ C) → Fin ys news' → RR (.ref D) C (.ok .next) { s₂ with heap := h, toks := tk }) :
    wpAny (model prog w) A (newList []) (fun acc s₃ => wpAny (model prog w) A (newFunctionEnv scope env.globals cl [] env.qual none .none (some env)) (fun cenv s₄ =>
      codeAny (model prog w) A (.compStart (.ListComp elt [⟨.Name x px, iter, [], 0⟩] scope pos) 0 (.ref I) acc { cenv with scope := relabel scope env }) (RR acc cenv.locals) s₄) E s₃) E s₂ := by
  refine wpAny_newObj_type ?_
  simp only [newFunctionEnv]
  refine wpAny_bind (wpAny_alloc ?_)
  refine wpAny_bind (wpAny_layCells _ (fun name kind cells => by cases hkc : kind == NameKind.cell <;> simp [hkc]) _ _ _ _ ?_)
  rw [hcf, hpc]
  simp only [List.forIn_nil]
  refine wpAny_bind (wpAny_pure (wpAny_pure ?_))
  dsimp only
  generalize hH2 : s₂.heap.push { cls := .type "list", dict := none, data := .seq ([] : List Value).toArray } = H2
  generalize hH3 : H2.push { cls := Value.type (if (some env).isSome = true then "dict" else "frame"), data := Data.dict #[] } = H3
  generalize hH4 : H3.push { cls := Value.type "cell", data := Data.cell none } = H4
  have hC : H2.objs.size = s₂.heap.objs.size + 1 := by rw [← hH2, Heap.size_push]
  have hc : H3.objs.size = s₂.heap.objs.size + 2 := by rw [← hH3, Heap.size_push, hC]
  have old : ∀ b o, s₂.heap.get? b = some o → H4.get? b = some o := fun b o e => hH4 ▸ Heap.get?_push_of_some _ (hH3 ▸ Heap.get?_push_of_some _ (hH2 ▸ Heap.get?_push_of_some _ e))
  have hacc : H4.get? s₂.heap.objs.size = some (LCg.lst []) := hH4 ▸ Heap.get?_push_of_some _ (hH3 ▸ Heap.get?_push_of_some _ (hH2 ▸ Heap.get?_push_size _ rfl))
  have hns₁ : H4.Ns H2.objs.size fun _ => none := hH4 ▸ Heap.Ns.push (hH3 ▸ Heap.Ns.new H2 _) _
  have hcell₁ : H4.get? H3.objs.size = some { cls := Value.type "cell", data := Data.cell none } := hH4 ▸ Heap.get?_push_size _ rfl
  have fresh : ∀ a, s₂.heap.objs.size ≤ a → s₂.heap.get? a = none := fun a ha => by
    cases e : s₂.heap.get? a with
    | none => rfl
    | some o' => exact absurd (Heap.lt_size e) (Nat.not_lt.mpr ha)
  have fresh₀ : ∀ a, s₂.heap.objs.size ≤ a → h₀.get? a = none := fun a ha => by
    cases e : h₀.get? a with
    | none => rfl
    | some o' => have := F.keep a o' e; rw [fresh a ha] at this; cases this
  generalize hgD : s₂.heap.objs.size = D at *
  generalize hgC : H2.objs.size = C at *
  generalize hgc : H3.objs.size = c at *
  have hD₀ : h₀.get? D = none := fresh₀ _ (Nat.le_refl _)
  have hC₀ : h₀.get? C = none := fresh₀ _ (by rw [hC]; exact Nat.le_succ _)
  have hc₀ : h₀.get? c = none := fresh₀ _ (by rw [hc]; exact Nat.le_add_right _ 2)
  have hLlt : L < D := hgD ▸ F.ns.lt
  have below : ∀ b : Nat, b < D → b ≠ C ∧ b ≠ D ∧ b ≠ c := fun b hb => by
    have h1 : (C : Nat) = D + 1 := hC
    have h2 : (c : Nat) = D + 2 := hc
    refine ⟨?_, ?_, ?_⟩ <;> intro q
    · rw [q, h1] at hb; exact absurd hb (Nat.not_lt.mpr (Nat.le_succ _))
    · rw [q] at hb; exact Nat.lt_irrefl _ hb
    · rw [q, h2] at hb; exact absurd hb (Nat.not_lt.mpr (Nat.le_add_right _ 2))
  have hDC : D ≠ C := by rw [hC]; exact Nat.ne_of_lt (Nat.lt_succ_self _)
  have hDc : D ≠ c := by rw [hc]; exact Nat.ne_of_lt (Nat.lt_succ_of_lt (Nat.lt_succ_self _))
  have hCc : C ≠ c := by rw [hc, hC]; exact Nat.ne_of_lt (Nat.lt_succ_self _)
  have hDL : D ≠ L := Ne.symm (below L hLlt).2.1
  have hCL : C ≠ L := Ne.symm (below L hLlt).1
  have hcL : c ≠ L := Ne.symm (below L hLlt).2.2
  have hIf : I ∈ fp := W.sub I (List.mem_singleton.mpr rfl)
  have hIlt : I < D := hfp I hIf
  have hDf : D ∉ fp := fun hm => Nat.lt_irrefl _ (hfp _ hm)
  have hcf' : c ∉ fp := fun hm => (below c (hfp _ hm)).2.2 rfl
  have hCI : I ≠ C := (below I hIlt).1
  have hDI : I ≠ D := (below I hIlt).2.1
  have hcI : I ≠ c := (below I hIlt).2.2
  have offn : ∀ p ∈ news, p.1 ≠ C ∧ p.1 ≠ D ∧ p.1 ≠ c := fun p hp => below _ (hgD ▸ Heap.lt_size (N p hp).1)
  have off₀ : LCg.Off3 I C D ((c, ({ cls := Value.type "cell", data := Data.cell none } : Obj)) :: news) := LCg.Off3.of fun p hp => by
    rcases List.mem_cons.mp hp with rfl | hp
    · exact ⟨Ne.symm hcI, Ne.symm hCc, Ne.symm hDc⟩
    · exact ⟨off p hp, (offn p hp).1, (offn p hp).2.1⟩
  have off1₀ : LCg.Off1 c news := all_off fun p hp => (offn p hp).2.2
  have hst₁ : St 0 H4 := W.frame _ _ _ hst fun b _ o e => old b o e
  have loop : ∀ s₃ : Shared, s₃ = { s₂ with heap := H4, toks := s₂.toks } →
      codeAny (model prog w) A (.compLoop (.ListComp elt [⟨.Name x px, iter, [], 0⟩] scope pos) 0 (.ref I) (.ref D) (compEnvC scope ((x, c) :: cl) C env))
        (RR (.ref D) C) s₃ := by
    rintro s₃ rfl
    refine codeAny_compLoop_tests
      (fun k s' => ∃ h' tk i ys m' oc news', s' = { s₂ with heap := h', toks := tk } ∧ i ≤ n ∧ k = n + 1 - i ∧ ys.length = i ∧ St i h' ∧ Fr h₀ L h' m ∧ h'.Ns C m' ∧ News h₀ L h' ((D, LCg.lst ys) :: (c, oc) :: news') ∧ (∃ v, oc.data = .cell v) ∧
        LCg.Off3 I C D ((c, oc) :: news') ∧ LCg.Off1 c news' ∧ S news' ∧ RestC prog w A h₀ L m env elt x scope cl c s₂ S P Fin (n - i) i ys news') ?_ (n + 1)
      ⟨H4, _, 0, [], _, _, news, rfl, Nat.zero_le _, rfl, rfl, hst₁, F.keeps old, hns₁, fun p hp => ?_, ⟨_, rfl⟩, off₀, off1₀, hS, R c off1₀⟩
    · rintro k s' ⟨h', tk, i, ys, m', oc, news', rfl, hi, rfl, hyl, hst', F', hn', N', ⟨v₀, hv₀⟩, off', off1', hS', R'⟩
      by_cases hlt : i < n
      · obtain ⟨j, hj⟩ : ∃ j, n - i = j + 1 := ⟨n - i - 1, by omega⟩
        rw [hj] at R'
        refine W.item i _ _ _ hlt hst' fun v h₂ tk₂ hPv hst₂ hk₂ => ?_
        have off3 := off'.mem
        have N₂ : News h₀ L h₂ ((D, LCg.lst ys) :: (c, oc) :: news') := LCg.news_but N' hk₂ fun p hp => by
          rcases List.mem_cons.mp hp with rfl | hp
          · exact Ne.symm hDI
          · exact (off3 p hp).1
        have zc := (N₂ (c, oc) (List.mem_cons_of_mem _ List.mem_cons_self)).1
        refine wpAny_assign_Name (wpAny_storeName_cell (c := c) (v₀ := v₀) (by simp [compEnvC, relabel, hkind]) (hx C c) (by simp [compEnvC]) ⟨oc, zc, hv₀⟩ (fun h₃ hc₃ hs₃ => ?_))
        refine wpAny_tests_nil ?_
        simp only [if_true]
        have hst₃ : St (i + 1) h₃ := W.frame _ _ _ hst₂ fun b hb o e => hs₃.extBut b o (fun q => hcf' (by have q' : b = c := q; rw [← q']; exact hb)) e
        obtain ⟨oI, heI⟩ := hIo _ _ hst₃
        have hn₃ : h₃.Ns C m' := (hn'.at' fun o e => hk₂ _ o (by simpa using Ne.symm hCI) e).sameBut hs₃ hCc
        obtain ⟨oC, heC, hoC⟩ := LCg.ns_obj hn₃
        obtain ⟨oc₃, hec₃, hdc₃⟩ := hc₃
        have F₃ : Fr h₀ L h₃ m := (LCg.fr_but F' hk₂ hIL hI₀).change hs₃ hcL hc₀
        have off1m : ∀ p ∈ news', p.1 ≠ c := off_all off1'
        have N₃ : News h₀ L h₃ ((I, oI) :: (C, oC) :: (D, LCg.lst ys) :: (c, oc₃) :: news') := fun p hp => by
          rcases List.mem_cons.mp hp with rfl | hp
          · exact ⟨heI, Ne.symm hIL, hI₀⟩
          · rcases List.mem_cons.mp hp with rfl | hp
            · exact ⟨heC, hCL, hC₀⟩
            · rcases List.mem_cons.mp hp with rfl | hp
              · have z := N₂ _ List.mem_cons_self
                exact ⟨hs₃.extBut _ _ hDc z.1, z.2⟩
              · rcases List.mem_cons.mp hp with rfl | hp
                · exact ⟨hec₃, hcL, hc₀⟩
                · have z := N₂ p (List.mem_cons_of_mem _ (List.mem_cons_of_mem _ hp))
                  exact ⟨hs₃.extBut _ _ (off1m p hp) z.1, z.2⟩
        have off₃ : LCg.Off3 I C D ((c, oc₃) :: news') := off'
        refine wpAny_mono (R' v I oI C oC D oc₃ h₃ _ _ hPv hdc₃ F₃ N₃ off₃ off1' ⟨hCI, hDI, Ne.symm hDC⟩) (fun y s₄ h₄ => ?_) fun _ _ e => e
        obtain ⟨h₄, tk₄, nw₄, rfl, F₄, N₄, off₄, _, oc₄, news₄, rfl, hv₄, off1₄, hS₄, R₄⟩ := h₄
        have zI := (N₄ (I, oI) List.mem_cons_self).1
        have zC := (N₄ (C, oC) (List.mem_cons_of_mem _ List.mem_cons_self)).1
        have zD := (N₄ (D, LCg.lst ys) (List.mem_cons_of_mem _ (List.mem_cons_of_mem _ List.mem_cons_self))).1
        have N₄' : News h₀ L h₄ ((c, oc₄) :: news₄) := fun p hp => N₄ p (List.mem_cons_of_mem _ (List.mem_cons_of_mem _ (List.mem_cons_of_mem _ hp)))
        have N₄'' : News h₀ L h₄ news₄ := fun p hp => N₄' p (List.mem_cons_of_mem _ hp)
        have hst₄ : St (i + 1) h₄ := hSt _ _ _ _ _ hst₃ heI zI F₄.keep N₄'' hS₄
        refine append_at (hsz := by show ys.toArray.size ≤ sizeLine; rw [List.size_toArray, hyl]; exact Nat.le_trans hi hsz) zD fun h₅ hs₅ hD₅ => ?_
        have off4 := off₄.mem
        refine ⟨n + 1 - (i + 1), by omega, h₅, tk₄, i + 1, ys ++ [y], _, oc₄, news₄, rfl, hlt, rfl, by rw [List.length_append, List.length_singleton, hyl], W.frame _ _ _ hst₄ fun b hb o e => hs₅.extBut b o (fun q => hDf (by have q' : b = D := q; rw [← q']; exact hb)) e, F₄.change hs₅ hDL hD₀,
          (hoC.ns zC).sameBut hs₅ (Ne.symm hDC), fun p hp => ?_, hv₄, off₄, off1₄, hS₄, ?_⟩
        · rcases List.mem_cons.mp hp with rfl | hp
          · exact ⟨hD₅.trans (congrArg some (LCg.lst_snoc ys y)), hDL, hD₀⟩
          · exact ⟨hs₅.extBut _ _ (off4 p hp).2.2 (N₄' p hp).1, (N₄' p hp).2⟩
        · rw [show n - (i + 1) = j by omega]
          exact R₄
      · obtain rfl : i = n := Nat.le_antisymm hi (Nat.not_lt.mp hlt)
        rw [Nat.sub_self] at R'
        refine W.done _ _ _ hst' fun h₂ tk₂ hk₂ => ?_
        have off3 := off'.mem
        have N₂ : News h₀ L h₂ ((D, LCg.lst ys) :: (c, oc) :: news') := LCg.news_but N' hk₂ fun p hp => by
          rcases List.mem_cons.mp hp with rfl | hp
          · exact Ne.symm hDI
          · exact (off3 p hp).1
        refine hRR _ _ h₂ tk₂ _ ys news' (LCg.fr_but F' hk₂ hIL hI₀) (fun p hp => N₂ p ?_) off'.one.2 (hn'.at' fun o e => hk₂ _ o (by simpa using Ne.symm hCI) e) hC₀ hD₀ hCL hDL (Ne.symm hDC) (fun p hp => (off3 p (List.mem_cons_of_mem _ hp)).2.1) R'
        rcases List.mem_cons.mp hp with rfl | hp
        · exact List.mem_cons_self
        · exact List.mem_cons_of_mem _ (List.mem_cons_of_mem _ hp)
    · rcases List.mem_cons.mp hp with rfl | hp
      · exact ⟨hacc, hDL, hD₀⟩
      · rcases List.mem_cons.mp hp with rfl | hp
        · exact ⟨hcell₁, hcL, hc₀⟩
        · exact ⟨old _ _ (N p hp).1, (N p hp).2⟩
  exact codeAny_compStart_list (loop _ rfl) (W.self 0 _ _ _ hst₁ (loop _ rfl))
theorem Assign_ListComp_C {elt iter : Expr} {x y : Str} {px py : Pos} {scope : Scope} {cl : List (Str × Addr)} {pos spos : Pos} {Q : Flow → Shared → Prop} (F₀ : Fr h₀ L s.heap m) (hLe : env.locals = L)
    (hsw : swapsWith (.ListComp elt [⟨.Name x px, iter, [], 0⟩] scope pos) (some (.Name y py)) spos.line env = pure true)
    (hclos : closureFor scope env = pure cl) (hcf : ∀ n, cellsFrom n scope.names cl = (x, n) :: cl) (hpc : ∀ h : Heap, pushCells h scope.names = h.push { cls := .type "cell", data := .cell none }) (hkind : scope.kind = .function)
    (hnames : ∀ z ∈ scope.names, z.2 = .local → scope.names.lookup z.1 = some .local) (hx : ∀ C c, (compEnvC scope ((x, c) :: cl) C env).kindOf x = some .cell)
    (hy : env.kindOf y = some .local) (hp : (env.scope.kind == .class || (env.scope.kind == .module && env.locals != env.globals)) = false)
    (h : wpAny (model prog w) A (eval iter env) (SrcC prog w A h₀ L m env elt x scope cl (fun s₂ => LCg.FinA h₀ L m s₂ y Q)) E s)
    (hs : ∀ x, foldedSetIterable iter env x = pure x := by intro _; rfl) :
    wpAny (model prog w) A (exec (.Assign [.Name y py] (.ListComp elt [⟨.Name x px, iter, [], 0⟩] scope pos) spos) env) Q E s := by
  subst hLe
  rw [exec_Assign_Name_used _ _ _ _ hsw]
  refine wpAny_bind (wpAny_standAt (wpAny_bind ?_))
  show wpAny _ A (do let _ ← comprehension (.ListComp elt [⟨.Name x px, iter, [], 0⟩] scope pos) scope env _ (newList []) false (eval iter env) (some (assign (.Name y py) env))) _ _ s
  refine wpAny_bind (wpAny_mono (wpAny_comprehension_free (use := some (assign (.Name y py) env)) (Q := fun _ s' => Q .next s') rfl hs hclos hkind hnames
    (wpAny_mono h (fun xv s₁ h₁ => ?_) fun _ _ e => e)) (fun _ s' hq => wpAny_pure (wpAny_pure hq)) fun _ _ e => e)
  obtain ⟨ax, its, k, news, rfl, hh, F, N, hm, hsz, R⟩ := h₁
  have S : LCg.SrcAt h₀ ax its news := .inr ⟨_, hm, rfl, _, rfl⟩
  have hl := S.list F.keep N
  have hlt : ax < s₁.heap.objs.size := by obtain ⟨_, e, _⟩ := hl; exact Heap.lt_size e
  refine wpAny_pyIter_list hl ?_
  have up : ∀ b o, s₁.heap.get? b = some o → (s₁.heap.push { cls := .type "list_iterator", data := .fields #[.ref ax, .int 0 0] }).get? b = some o := fun b o e => Heap.get?_push_of_some _ e
  refine block_C (Walks.list hh s₁.heap.objs.size ax (Nat.ne_of_lt hlt) its) hsz (fun i h st => by obtain ⟨o, e, _⟩ := st.1; exact ⟨o, e⟩) LCg.list_st hcf hpc hkind hx ⟨⟨_, Heap.get?_push_size _ rfl, rfl, rfl⟩, hl.push _⟩ (fun b hb => ?_)
    (F.keeps up) (N.grown up) (Nat.ne_of_lt F.ns.lt) (next_is_new F) (fun p hp => Nat.ne_of_lt (Heap.lt_size (N p hp).1)) S (R _) ?_
  · show b < (s₁.heap.push _).objs.size
    rw [Heap.size_push]
    rcases List.mem_cons.mp hb with rfl | hb
    · exact Nat.lt_succ_self _
    · rw [List.mem_singleton.mp hb]; exact Nat.lt_succ_of_lt hlt
  · intro D C h' tk m' ys news' F' N' o1 hn hC₀ hD₀ hCL hDL hCD offC fin
    show wpAny _ A (assign (.Name y py) env (.ref D)) _ _ _
    refine wpAny_assign_Name (wpAny_storeName_local hy F'.ns (fun h₂ hn₂ hs₂ => ?_) hp)
    have hL₀ : h₀.get? env.locals = none := Heap.get?_none_of_le F'.above
    have F₂ : Fr h₀ env.locals h₂ (fun z => if z = y then some (.ref D) else m z) := ⟨hn₂, fun b o e => hs₂.extBut b o (fun q => by rw [q, hL₀] at e; cases e) (F'.keep b o e), F'.above⟩
    refine ⟨m', hn.sameBut hs₂ hCL, fun h'' hs'' => fin D h'' _ (F₂.change hs'' hCL hC₀) (fun p hp => ?_) o1⟩
    have z : h₂.get? p.1 = some p.2 := hs₂.extBut _ _ (N' p hp).2.1 (N' p hp).1
    refine ⟨hs''.extBut _ _ ?_ z, (N' p hp).2⟩
    rcases List.mem_cons.mp hp with rfl | hp
    · exact Ne.symm hCD
    · exact offC p hp
end
def RowP (ks : List Int) (win place most k : Int) (nws : List (Addr × Obj)) (y : Value) (nw : List (Addr × Obj)) : Prop := (∃ (r : Nat) (t : Tok), y = .int (r : Int) t ∧ IsR ks win place k most r) ∧ nw = nws
/-- what a turn of the told block leaves: a row of ints -/
def RowEl (ks : List Int) (win place most : Int) (c : Addr) (news : List (Addr × Obj)) (y : Value) (nw : List (Addr × Obj)) : Prop :=
  ∃ (oc : Obj) (v : Option Value) (r : Addr) (vs : List Value) (is : List Int) (n : Nat), y = .ref r ∧ nw = (c, oc) :: (r, listOf vs.toArray n) :: news ∧ oc.data = .cell v ∧ r ≠ c ∧ LCg.Off1 c news ∧ LCg.Off1 r news ∧ IntsAre vs is ∧ IsRow ks win place most is
section
variable {prog : Program} {w : World} {A : Around} {h₀ : Heap} {L : Addr} {m : Str → Option Value} {env : Env} {elt : Expr} {x : Str} {scope : Scope} {cl : List (Str × Addr)} {c : Addr} {s : Shared} {S : List (Addr × Obj) → Prop} {Fin : List Value → List (Addr × Obj) → Prop} {news : List (Addr × Obj)} {ks : List Int} {win place most : Int}
/-- one turn of such a block -/
def ToldTurn (prog : Program) (w : World) (A : Around) (h₀ : Heap) (L : Addr) (m : Str → Option Value) (env : Env) (elt : Expr) (x : Str) (scope : Scope) (cl : List (Str × Addr)) (c : Addr) (s : Shared) (ks : List Int) (win place most : Int) (xa : Addr) (ys : List Value) (news : List (Addr × Obj)) : Prop :=
  ∀ I oI C oC D oc h tk (E' : Value → Shared → Prop), oc.data = .cell (some (.ref xa)) → Fr h₀ L h m → News h₀ L h ((I, oI) :: (C, oC) :: (D, LCg.lst ys) :: (c, oc) :: news) → LCg.Off3 I C D ((c, oc) :: news) → LCg.Off1 c news → ((@Ne Nat I C) ∧ (@Ne Nat I D) ∧ (@Ne Nat C D)) →
    wpAny (model prog w) A (eval elt (compEnvC scope ((x, c) :: cl) C env)) (LCg.CompEnd h₀ L m { s with heap := h, toks := tk } I oI C oC D (LCg.lst ys) (fun _ => True) (RowEl ks win place most c news)) E' { s with heap := h, toks := tk }
theorem told3 {x0 x1 x2 : Addr} (hS : ∀ nw, (∀ p ∈ news, p ∈ nw) → S nw)
    (t0 : ToldTurn prog w A h₀ L m env elt x scope cl c s ks win place most x0 [] news)
    (t1 : ∀ r0 vs0 is0 n0, LCg.Off1 r0 news → IntsAre vs0 is0 → IsRow ks win place most is0 → ToldTurn prog w A h₀ L m env elt x scope cl c s ks win place most x1 [.ref r0] ((r0, listOf vs0.toArray n0) :: news))
    (t2 : ∀ r0 vs0 is0 n0 r1 vs1 is1 n1, LCg.Off1 r0 news → IntsAre vs0 is0 → IsRow ks win place most is0 → LCg.Off1 r1 ((r0, listOf vs0.toArray n0) :: news) → IntsAre vs1 is1 → IsRow ks win place most is1 → ToldTurn prog w A h₀ L m env elt x scope cl c s ks win place most x2 [.ref r0, .ref r1] ((r1, listOf vs1.toArray n1) :: (r0, listOf vs0.toArray n0) :: news))
    (fin : ∀ r0 vs0 is0 n0 r1 vs1 is1 n1 r2 vs2 is2 n2, LCg.Off1 r0 news → IntsAre vs0 is0 → IsRow ks win place most is0 → LCg.Off1 r1 ((r0, listOf vs0.toArray n0) :: news) → IntsAre vs1 is1 → IsRow ks win place most is1 →
      LCg.Off1 r2 ((r1, listOf vs1.toArray n1) :: (r0, listOf vs0.toArray n0) :: news) → IntsAre vs2 is2 → IsRow ks win place most is2 →
      Fin [.ref r0, .ref r1, .ref r2] ((r2, listOf vs2.toArray n2) :: (r1, listOf vs1.toArray n1) :: (r0, listOf vs0.toArray n0) :: news)) :
    RestC prog w A h₀ L m env elt x scope cl c s S (fun i v => (#[.ref x0, .ref x1, .ref x2] : Array Value)[i]? = some v) Fin 3 0 [] news := by
  rintro v I oI C oC D oc h tk E' hv hd F N o3 o1 ne
  obtain rfl : Value.ref x0 = v := by simpa using hv
  refine wpAny_mono (t0 I oI C oC D oc h tk E' hd F N o3 o1 ne) (fun y s₂ hq => ?_) fun _ _ e => e
  obtain ⟨h', tk', nw', e, F', N', off', _, oc', v', r0, vs0, is0, n0, rfl, rfl, hv', hrc, o1', or, hi0, hr0⟩ := hq
  refine ⟨h', tk', _, e, F', N', off', trivial, oc', _, rfl, ⟨v', hv'⟩, ⟨hrc, o1'⟩, hS _ (fun p hp => List.mem_cons_of_mem _ hp), ?_⟩
  rintro v I oI C oC D oc h tk E' hv hd F N o3 o1 ne
  obtain rfl : Value.ref x1 = v := by simpa using hv
  refine wpAny_mono (t1 r0 vs0 is0 n0 or hi0 hr0 I oI C oC D oc h tk E' hd F N o3 o1 ne) (fun y s₂ hq => ?_) fun _ _ e => e
  obtain ⟨h', tk', nw', e, F', N', off', _, oc', v', r1, vs1, is1, n1, rfl, rfl, hv', hrc, o1', or1, hi1, hr1⟩ := hq
  refine ⟨h', tk', _, e, F', N', off', trivial, oc', _, rfl, ⟨v', hv'⟩, ⟨hrc, o1'⟩, hS _ (fun p hp => List.mem_cons_of_mem _ (List.mem_cons_of_mem _ hp)), ?_⟩
  rintro v I oI C oC D oc h tk E' hv hd F N o3 o1 ne
  obtain rfl : Value.ref x2 = v := by simpa using hv
  refine wpAny_mono (t2 r0 vs0 is0 n0 r1 vs1 is1 n1 or hi0 hr0 or1 hi1 hr1 I oI C oC D oc h tk E' hd F N o3 o1 ne) (fun y s₂ hq => ?_) fun _ _ e => e
  obtain ⟨h', tk', nw', e, F', N', off', _, oc', v', r2, vs2, is2, n2, rfl, rfl, hv', hrc, o1', or2, hi2, hr2⟩ := hq
  exact ⟨h', tk', _, e, F', N', off', trivial, oc', _, rfl, ⟨v', hv'⟩, ⟨hrc, o1'⟩, hS _ (fun p hp => List.mem_cons_of_mem _ (List.mem_cons_of_mem _ (List.mem_cons_of_mem _ hp))), fin r0 vs0 is0 n0 r1 vs1 is1 n1 r2 vs2 is2 n2 or hi0 hr0 or1 hi1 hr1 or2 hi2 hr2⟩
/-- the inner block: a row -/
theorem row_rest {n : Nat} {nws : List (Addr × Obj)} (hn : (n : Int) = place + 2)
    (turn : ∀ k t ys I oI C oC D m₂ h tk (E' : Value → Shared → Prop), 0 ≤ k → k < (n : Int) → LCg.NsObj oC m₂ → m₂ x = some (.int k t) → Fr h₀ L h m → News h₀ L h ((I, oI) :: (C, oC) :: (D, LCg.lst ys) :: nws) → LCg.Off3 I C D nws → ((@Ne Nat I C) ∧ (@Ne Nat I D) ∧ (@Ne Nat C D)) →
      wpAny (model prog w) A (eval elt (compEnvC scope cl C env)) (LCg.CompEnd h₀ L m { s with heap := h, toks := tk } I oI C oC D (LCg.lst ys) S (RowP ks win place most k nws)) E' { s with heap := h, toks := tk })
    (fin : ∀ ys is, IntsAre ys is → IsRow ks win place most is → Fin ys nws) : LCg.CompRest prog w A h₀ L m env elt x scope cl s S (fun i v => ∃ t, v = .int (0 + (i : Int)) t) Fin n 0 [] nws := by
  refine comp_inv (fun i ys nw => nw = nws ∧ ∃ is : List Int, IntsAre ys is ∧ is.length = i ∧ ∀ j : Nat, j < is.length → ∃ r : Nat, is.getD j 0 = (r : Int) ∧ IsR ks win place j most r) ⟨rfl, [], .nil, rfl, fun j hj => nomatch hj⟩ ?_ ?_
  · rintro i v ys nw I oI C oC D m₂ h tk E' hi ⟨t, rfl⟩ ⟨rfl, is, his, hlen, hrow⟩ hC hx F N off ne
    refine wpAny_mono (turn _ t ys I oI C oC D m₂ h tk E' (by omega) (by omega) hC hx F N off ne) (fun y s₂ hq => ?_) fun _ _ e => e
    obtain ⟨h', tk', nw', e, F', N', off', hS, ⟨r, t', rfl, hr⟩, rfl⟩ := hq
    refine ⟨h', tk', _, e, F', N', off', hS, rfl, is ++ [(r : Int)], IntsAre.append his (.cons _ t' .nil), by simp [hlen], ?_⟩
    intro j hj
    rw [List.length_append, List.length_singleton] at hj
    by_cases hji : j < is.length
    · obtain ⟨r', e', h'⟩ := hrow j hji
      exact ⟨r', by rw [← e']; simp [List.getD, List.getElem?_append_left hji], h'⟩
    · obtain rfl : j = is.length := by omega
      refine ⟨r, by simp [List.getD], ?_⟩
      rw [hlen]
      rw [Int.zero_add] at hr
      exact hr
  · rintro ys nw ⟨rfl, is, his, hlen, hrow⟩
    exact fin ys is his ⟨by rw [hlen]; exact hn, hrow⟩
end
theorem IsR.uniq {ks : List Int} {win place dist most : Int} {a b : Nat} (h : IsR ks win place dist most a) (h' : IsR ks win place dist most b) : a = b := by
  by_cases q : dist < 1 ∨ dist > place ∨ dist > win
  · rw [h.none q, h'.none q]
  · exact IsAl.uniq (h.some (by omega) (by omega) (by omega)) (h'.some (by omega) (by omega) (by omega))
theorem IsRow.uniq {ks : List Int} {win place most : Int} {is js : List Int} (h : IsRow ks win place most is) (h' : IsRow ks win place most js) : is = js := by
  have l : is.length = js.length := by have := h.len; have := h'.len; omega
  refine List.ext_getElem l fun j h1 h2 => ?_
  obtain ⟨a, ea, ha⟩ := h.row j h1
  obtain ⟨b, eb, hb⟩ := h'.row j h2
  have e : is.getD j 0 = js.getD j 0 := by rw [ea, eb, IsR.uniq ha hb]
  simpa [List.getD, h1, h2] using e
section
variable {prog : Program} {w : World} {A : Around} {h₀ : Heap} {L : Addr} {m : Str → Option Value} {env : Env} {elt : Expr} {x : Str} {scope : Scope} {cl : List (Str × Addr)} {s : Shared} {S : List (Addr × Obj) → Prop} {Fin : List Value → List (Addr × Obj) → Prop} {news : List (Addr × Obj)}
def ZeroEl (news : List (Addr × Obj)) (y : Value) (nw : List (Addr × Obj)) : Prop := (∃ t, y = .int 0 t) ∧ nw = news
/-- one turn of a block over objects that leaves the int nought -/
def ZeroTurn (prog : Program) (w : World) (A : Around) (h₀ : Heap) (L : Addr) (m : Str → Option Value) (env : Env) (elt : Expr) (x : Str) (scope : Scope) (cl : List (Str × Addr)) (s : Shared) (S : List (Addr × Obj) → Prop) (news : List (Addr × Obj)) (xa : Addr) (ys : List Value) : Prop :=
  ∀ I oI C oC D m₂ h tk (E' : Value → Shared → Prop), LCg.NsObj oC m₂ → m₂ x = some (.ref xa) → Fr h₀ L h m → News h₀ L h ((I, oI) :: (C, oC) :: (D, LCg.lst ys) :: news) → LCg.Off3 I C D news → ((@Ne Nat I C) ∧ (@Ne Nat I D) ∧ (@Ne Nat C D)) →
    wpAny (model prog w) A (eval elt (compEnvC scope cl C env)) (LCg.CompEnd h₀ L m { s with heap := h, toks := tk } I oI C oC D (LCg.lst ys) S (ZeroEl news)) E' { s with heap := h, toks := tk }
theorem zero3 {x0 x1 x2 : Addr} (t0 : ZeroTurn prog w A h₀ L m env elt x scope cl s S news x0 [])
    (t1 : ∀ t, ZeroTurn prog w A h₀ L m env elt x scope cl s S news x1 [.int 0 t])
    (t2 : ∀ t u, ZeroTurn prog w A h₀ L m env elt x scope cl s S news x2 [.int 0 t, .int 0 u])
    (fin : ∀ t u v, Fin [.int 0 t, .int 0 u, .int 0 v] news) :
    LCg.CompRest prog w A h₀ L m env elt x scope cl s S (fun i v => (#[.ref x0, .ref x1, .ref x2] : Array Value)[i]? = some v) Fin 3 0 [] news := by
  rintro v I oI C oC D m₂ h tk E' hv hC hx F N off ne
  obtain rfl : Value.ref x0 = v := by simpa using hv
  refine wpAny_mono (t0 I oI C oC D m₂ h tk E' hC hx F N off ne) (fun y s₂ hq => ?_) fun _ _ e => e
  obtain ⟨h0, tk0, nw0, e0, F0, N0, o0, S0, ⟨t, rfl⟩, rfl⟩ := hq
  refine ⟨h0, tk0, _, e0, F0, N0, o0, S0, ?_⟩
  rintro v I oI C oC D m₂ h tk E' hv hC hx F N off ne
  obtain rfl : Value.ref x1 = v := by simpa using hv
  refine wpAny_mono (t1 t I oI C oC D m₂ h tk E' hC hx F N off ne) (fun y s₂ hq => ?_) fun _ _ e => e
  obtain ⟨h1, tk1, nw1, e1, F1, N1, o1, S1, ⟨u, rfl⟩, rfl⟩ := hq
  refine ⟨h1, tk1, _, e1, F1, N1, o1, S1, ?_⟩
  rintro v I oI C oC D m₂ h tk E' hv hC hx F N off ne
  obtain rfl : Value.ref x2 = v := by simpa using hv
  refine wpAny_mono (t2 t u I oI C oC D m₂ h tk E' hC hx F N off ne) (fun y s₂ hq => ?_) fun _ _ e => e
  obtain ⟨h2, tk2, nw2, e2, F2, N2, o2, S2, ⟨v, rfl⟩, rfl⟩ := hq
  exact ⟨h2, tk2, _, e2, F2, N2, o2, S2, fin t u v⟩
end
local macro_rules | `(tactic| k_updF) => `(tactic| first | (refine' UpdF.head ?a; (case a => k_all)) | (refine' UpdF.tail ?a ?b; (case b => k_updF); (case a => k_ne)) | fail)
local macro_rules | `(tactic| k_all) => `(tactic| k_extra "k_all")
local macro_rules | `(tactic| ktr_enter) => `(tactic| k_extra "ktr_enter")
local macro_rules | `(tactic| k_room) => `(tactic| k_extra "k_room")
local macro_rules | `(tactic| units_room) => `(tactic| k_extra "units_room")
local macro_rules | `(tactic| k_enter) => `(tactic| k_extra "k_enter")
local macro_rules | `(tactic| k_is) => `(tactic| k_extra "k_is")
local macro_rules | `(tactic| k_get) => `(tactic| k_extra "k_get")
local macro_rules | `(tactic| kba_in) => `(tactic| k_extra "kba_in")
local macro_rules | `(tactic| walk_at $s:str) => `(tactic| k_extra $s)
theorem rows1 : True := by
  k_with_none
  k_with "k_all" => (first | assumption | exact lt_all (by assumption) | exact off_all (by assumption) | ((repeat' (with_reducible rename _ ∧ _ => hc9; cases hc9)); first | exact lt_all (by assumption) | exact lt_all1 (by assumption) | exact lt_all2 (by assumption) | exact off_all (by assumption)) | (refine List.forall_mem_append.mpr (And.intro ?_ ?_) <;> k_all))
  k_with "ktr_enter" => (first   | (refine' code_def ?k1 ?k2 ?k3 ?k4 ?k5 ?kA ?kF ?kK ?k6 ?k7 ?k8 ?k9 ?kB ?_ ?c2 ?c3 ?c4 ?c5; (case kA => exact rfl); (case kF => exact rfl); (case kK => first | exact rfl | assumption); (case k1 => k_asm); (case k2 => k_asm); (case k3 => k_asm); (case k4 => k_asm); (case k5 => k_asm); (case k6 => k_is); (case k7 => k_is); (case k8 => ktr_room); (case k9 => first | exact BindsTo.of_eq rfl | exact binds_K (by k_in) rfl (by k_is) rfl rfl rfl); (case c5 => decide); (case kB => exact locs rfl); (case c2 => exact rfl); (case c3 => exact rfl); (case c4 => exact rfl); k_whole; intro g' L' h' FG' F' N' B' X' T'; (try dsimp only); (try k_lift B'); (try k_fold))   | (refine' code_defC ?k1 ?k2 ?k3 ?k4 ?k5 ?kA ?kF ?kK ?k6 ?k7 ?k8 ?k9 ?kB ?kD ?_ ?c2 ?c3 ?c4; (case kA => exact rfl); (case kF => exact rfl); (case kK => first | exact rfl | assumption); (case k1 => k_asm); (case k2 => k_asm); (case k3 => k_asm); (case k4 => k_asm); (case k5 => k_asm); (case k6 => k_is); (case k7 => k_is); (case k8 => ktr_room); (case k9 => first | exact BindsTo.of_eq rfl | exact binds_K (by k_in) rfl (by k_is) rfl rfl rfl); (case kB => exact rfl); (case kD => decide +kernel); (case c2 => exact rfl); (case c3 => exact rfl); (case c4 => exact rfl); k_whole; intro g' L' h' tk' cells' FG' F' N' Y' B' X' T' l1; (try k_lt l1); k_cells Y'; (try simp only [List.cons_append, List.nil_append] at N'); (try dsimp only); (try k_lift B'); (try k_fold)))
  k_with "k_room" => (ktr_room)
  k_with "units_room" => (ktr_units)
  k_with "k_enter" => (((fail_if_success k_inElt); ktr_enter))
  trivial
set_option maxRecDepth 100000 in
set_option maxHeartbeats 8000000 in
theorem take_raw (prog p : Program) (loose : List Str) (w : World) (mean : ExcName → Option Value) (mg mb : Str → Option Value) (dp un : Nat) (gd : Option (List Code)) (cn : Str) (cs : Scope) (a : Addr) (ccd : Value) (cl : List (Str × Addr)) (outer : List Env) (A₀ : Around) (base h₀ : Heap) (L : Addr) (m : Str → Option Value) (s : Shared) (Q E : Value → Shared → Prop)
    (b : Addr) (d st : Int) (t1 t2 tm : Tok) (n : Nat) (many : Int) (rest : List (Addr × Obj))
    (B : Below A₀ base outer h₀) (F : Fr h₀ L s.heap m) (X : (hd.heap_1 w.params).In h₀) (N : News h₀ L s.heap ((b, boxO d st t1 t2 n) :: rest)) (T : Top p loose mean mg mb h₀) (hk : cs.kind = .function)
    (hdp : dp + 1 < recursionLimit) (hun : un + 8 < cLine)
    (hdis : ∀ p ∈ rest, p.1 ≠ b) (hb : BoxOk d st) (hm1 : 1 ≤ many) (hm2 : many < 1000)
    (hret : ∀ (r : Int) (t : Tok) (d' st' : Int) (t1' t2' : Tok) (n' : Nat) (h' : Heap) (tk' : Nat), Fr h₀ L h' m → News h₀ L h' ((b, boxO d' st' t1' t2' n') :: rest) → BoxOk d' st' → 0 ≤ r → r < many → Q (.int r t) { s with heap := h', toks := tk' }) :
    Hint PySem.Challenge.rw_tg0038_01 hd.heap_1 (wpAny (model prog w) (ktrTop dp un gd cn cs L a ccd cl outer) (call (.ref 323) [.ref b, .int many tm]) Q E s) := by
  obtain ⟨hd0, hst, hst2⟩ := hb
  w_top off
  k_fill
  unfold Hint
  refine wpAny_call ?_
  k_dflt ktr_enter
  k_steps
  · refine hret _ _ _ _ _ _ _ _ _ (by k_asm) (by k_asm) ⟨?_, ?_, ?_⟩ ?_ ?_
    · show 0 ≤ d.fdiv many
      exact fd_lo hd0 hm1
    · exact hst
    · exact hst2
    · show 0 ≤ d.fmod many
      exact fm_lo _ hm1
    · show d.fmod many < many
      exact fm_hi _ hm1
  · refine hret _ _ _ _ _ _ _ _ _ (by k_asm) (by k_asm) ⟨?_, ?_, ?_⟩ ?_ ?_
    · exact hd0
    · exact fm_lo _ (by decide)
    · exact fm_hi _ (by decide)
    · exact fm_lo _ hm1
    · exact fm_hi _ hm1
theorem take_use {prog p : Program} {loose : List Str} {w : World} {mean : ExcName → Option Value} {mg mb : Str → Option Value} {dp un : Nat} {gd : Option (List Code)} {cn : Str} {cs : Scope} {a : Addr} {ccd : Value} {cl : List (Str × Addr)} {outer : List Env} {A₀ : Around} {base h₀ : Heap} {L : Addr} {m : Str → Option Value} {s : Shared} {Q E : Value → Shared → Prop}
    {b : Addr} {d st : Int} {t1 t2 tm : Tok} {n : Nat} {many : Int} {news : List (Addr × Obj)} {g : Obj → List (Addr × Obj)}
    (B : Below A₀ base outer h₀) (F : Fr h₀ L s.heap m) (X : (hd.heap_1 w.params).In h₀) (N : News h₀ L s.heap news) (T : Top p loose mean mg mb h₀) (hk : cs.kind = .function)
    (hdp : dp + 1 < recursionLimit) (hun : un + 8 < cLine)
    (U : UpdF b (boxO d st t1 t2 n) news g) (hb : BoxOk d st) (hm1 : 1 ≤ many) (hm2 : many < 1000)
    (hret : ∀ (r : Int) (t : Tok) (d' st' : Int) (t1' t2' : Tok) (n' : Nat) (h' : Heap) (tk' : Nat), Fr h₀ L h' m → News h₀ L h' (g (boxO d' st' t1' t2' n')) → BoxOk d' st' → 0 ≤ r → r < many → Q (.int r t) { s with heap := h', toks := tk' }) :
    wpAny (model prog w) (ktrTop dp un gd cn cs L a ccd cl outer) (call (.ref 323) [.ref b, .int many tm]) Q E s := by
  obtain ⟨rest, hdis, hin, hto, hof⟩ := UpdF.turn U
  exact Hint.out (take_raw prog p loose w mean mg mb dp un gd cn cs a ccd cl outer A₀ base h₀ L m s Q E b d st t1 t2 tm n many rest B F X (fun q hq => N q (hin q hq)) T hk hdp hun hdis hb hm1 hm2
    fun r t d' st' t1' t2' n' h' tk' F' N' hb' r0 r1 => hret r t d' st' t1' t2' n' h' tk' F' (fun q hq => N' q (hof _ q hq)) hb' r0 r1)
theorem rows2 : True := by
  k_with_none
  k_with "k_all" => (first | assumption | exact lt_all (by assumption) | exact off_all (by assumption) | ((repeat' (with_reducible rename _ ∧ _ => hc9; cases hc9)); first | exact lt_all (by assumption) | exact lt_all1 (by assumption) | exact lt_all2 (by assumption) | exact off_all (by assumption)) | (refine List.forall_mem_append.mpr (And.intro ?_ ?_) <;> k_all))
  k_with "ktr_enter" => (first   | (refine' code_def ?k1 ?k2 ?k3 ?k4 ?k5 ?kA ?kF ?kK ?k6 ?k7 ?k8 ?k9 ?kB ?_ ?c2 ?c3 ?c4 ?c5; (case kA => exact rfl); (case kF => exact rfl); (case kK => first | exact rfl | assumption); (case k1 => k_asm); (case k2 => k_asm); (case k3 => k_asm); (case k4 => k_asm); (case k5 => k_asm); (case k6 => k_is); (case k7 => k_is); (case k8 => ktr_room); (case k9 => first | exact BindsTo.of_eq rfl | exact binds_K (by k_in) rfl (by k_is) rfl rfl rfl); (case c5 => decide); (case kB => exact locs rfl); (case c2 => exact rfl); (case c3 => exact rfl); (case c4 => exact rfl); k_whole; intro g' L' h' FG' F' N' B' X' T'; (try dsimp only); (try k_lift B'); (try k_fold))   | (refine' code_defC ?k1 ?k2 ?k3 ?k4 ?k5 ?kA ?kF ?kK ?k6 ?k7 ?k8 ?k9 ?kB ?kD ?_ ?c2 ?c3 ?c4; (case kA => exact rfl); (case kF => exact rfl); (case kK => first | exact rfl | assumption); (case k1 => k_asm); (case k2 => k_asm); (case k3 => k_asm); (case k4 => k_asm); (case k5 => k_asm); (case k6 => k_is); (case k7 => k_is); (case k8 => ktr_room); (case k9 => first | exact BindsTo.of_eq rfl | exact binds_K (by k_in) rfl (by k_is) rfl rfl rfl); (case kB => exact rfl); (case kD => decide +kernel); (case c2 => exact rfl); (case c3 => exact rfl); (case c4 => exact rfl); k_whole; intro g' L' h' tk' cells' FG' F' N' Y' B' X' T' l1; (try k_lt l1); k_cells Y'; (try simp only [List.cons_append, List.nil_append] at N'); (try dsimp only); (try k_lift B'); (try k_fold)))
  k_with "k_room" => (ktr_room)
  k_with "units_room" => (ktr_units)
  k_with "k_enter" => (((fail_if_success k_inElt); ktr_enter))
  k_with "call ref" => ((k_here; (with_reducible show wpAny _ _ (call (Value.ref 323) _ _) _ _ _); k_dflt (refine' take_use ?k1 ?k2 ?k3 ?k4 ?k5 ?kK ?kd ?ku ?kU ?kb ?p1 ?p2 ?_; (case k1 => k_asm); (case k2 => k_asm); (case k3 => k_asm); (case k4 => k_asm); (case k5 => k_asm); (case kK => first | exact rfl | assumption); (case kd => ktr_room); (case ku => ktr_units); (case kU => k_updF); (case kb => assumption); (case p1 => first | decide | omega); (case p2 => first | decide | omega); k_whole); intro r' t' d' st' t1' t2' n' h' tk' F' N' hb' hr0' hr1'; (try dsimp only); (try k_fold)))
  k_with "CompSrc" => ((k_here; k_dflt (refine LCg.CompSrc.range (by rfl) (by k_asm) (by k_asm) (by assumption) (by exact small_one (by omega) (by omega) (by omega) (by omega)) (by exact rangeSize_nat _ _) (by rw [PySem.sizeLine_eq]; omega) ?_); intro g'; (refine' word_rest 97 99 ?kU ?kb ?kT ?kV; (case kU => k_updF); (case kb => assumption)); (case' kT => intro k' t' ys' I' oI' C' oC' D' m' h' tk' E' d' st' t1' t2' n' hb' hC' hx' F' N' off' ne'; (try simp only [LCg.Off3, and_true] at off'); (try k_fold)); (case' kV => intro ys' ns' d' st' t1' t2' n' hy' hl' hr' hb')))
  k_with "CompEnd" => ((k_dflt (refine' take_el ?kF ?kN ?ksub ?koff ?kS ?kb ?k1 ?k2; (case kF => assumption); (case kN => assumption); (case ksub => (try dsimp only); kcf_all); (case kb => assumption); (case koff => first | assumption | ((simp only [LCg.Off3, and_true]); assumption)); (case kS => trivial); (case k1 => omega); (case k2 => omega))))
  trivial
set_option maxRecDepth 100000 in
set_option maxHeartbeats 8000000 in
theorem word_raw (prog p : Program) (loose : List Str) (w : World) (mean : ExcName → Option Value) (mg mb : Str → Option Value) (dp un : Nat) (gd : Option (List Code)) (cn : Str) (cs : Scope) (a : Addr) (ccd : Value) (cl : List (Str × Addr)) (outer : List Env) (A₀ : Around) (base h₀ : Heap) (L : Addr) (m : Str → Option Value) (s : Shared) (Q E : Value → Shared → Prop)
    (b : Addr) (d st : Int) (t1 t2 tm : Tok) (n : Nat) (size : Int) (rest : List (Addr × Obj))
    (B : Below A₀ base outer h₀) (F : Fr h₀ L s.heap m) (X : (hd.heap_1 w.params).In h₀) (N : News h₀ L s.heap ((b, boxO d st t1 t2 n) :: rest)) (T : Top p loose mean mg mb h₀) (hk : cs.kind = .function)
    (hdp : dp + 2 < recursionLimit) (hun : un + 16 < cLine)
    (hdis : ∀ p ∈ rest, p.1 ≠ b) (hb : BoxOk d st) (hm1 : 0 ≤ size) (hm2 : size < 100)
    (hret : ∀ (l : Addr) (ys : List Value) (ns : List Int) (nn : Nat) (d' st' : Int) (t1' t2' : Tok) (n' : Nat) (h' : Heap) (tk' : Nat), Fr h₀ L h' m → News h₀ L h' ((l, listOf ys.toArray nn) :: (b, boxO d' st' t1' t2' n') :: rest) → PyProof.Rows.LCg.Off1 l ((b, boxO d' st' t1' t2' n') :: rest) → IntsAre ys ns → (ns.length : Int) = size → (∀ k ∈ ns, 97 ≤ k ∧ k ≤ 99) → BoxOk d' st' → Q (.ref l) { s with heap := h', toks := tk' }) :
    Hint PySem.Challenge.rw_tg0038_01 hd.heap_1 (wpAny (model prog w) (ktrTop dp un gd cn cs L a ccd cl outer) (call (.ref 328) [.ref b, .int size tm]) Q E s) := by
  w_top off
  k_fill
  unfold Hint
  refine wpAny_call ?_
  k_dflt ktr_enter
  k_steps
  refine' hret _ _ _ _ _ _ _ _ _ _ _ ?kF (cb_drop ?kN ?ks) ?ko ?ki ?kl ?kr ?kb
  case kF => k_asm
  case kN => k_asm
  case ki => assumption
  case kb => assumption
  case kr => assumption
  case ks => kcf_all
  case kl => omega
  case ko => simp only [LCg.Off1] at *; simp_all
theorem word_use {prog p : Program} {loose : List Str} {w : World} {mean : ExcName → Option Value} {mg mb : Str → Option Value} {dp un : Nat} {gd : Option (List Code)} {cn : Str} {cs : Scope} {a : Addr} {ccd : Value} {cl : List (Str × Addr)} {outer : List Env} {A₀ : Around} {base h₀ : Heap} {L : Addr} {m : Str → Option Value} {s : Shared} {Q E : Value → Shared → Prop}
    {b : Addr} {d st : Int} {t1 t2 tm : Tok} {n : Nat} {size : Int} {news : List (Addr × Obj)} {g : Obj → List (Addr × Obj)}
    (B : Below A₀ base outer h₀) (F : Fr h₀ L s.heap m) (X : (hd.heap_1 w.params).In h₀) (N : News h₀ L s.heap news) (T : Top p loose mean mg mb h₀) (hk : cs.kind = .function)
    (hdp : dp + 2 < recursionLimit) (hun : un + 16 < cLine)
    (U : UpdF b (boxO d st t1 t2 n) news g) (hb : BoxOk d st) (hm1 : 0 ≤ size) (hm2 : size < 100)
    (hret : ∀ (l : Addr) (ys : List Value) (ns : List Int) (nn : Nat) (d' st' : Int) (t1' t2' : Tok) (n' : Nat) (h' : Heap) (tk' : Nat), Fr h₀ L h' m → News h₀ L h' ((l, listOf ys.toArray nn) :: g (boxO d' st' t1' t2' n')) → PyProof.Rows.LCg.Off1 l (g (boxO d' st' t1' t2' n')) → IntsAre ys ns → (ns.length : Int) = size → (∀ k ∈ ns, 97 ≤ k ∧ k ≤ 99) → BoxOk d' st' → Q (.ref l) { s with heap := h', toks := tk' }) :
    wpAny (model prog w) (ktrTop dp un gd cn cs L a ccd cl outer) (call (.ref 328) [.ref b, .int size tm]) Q E s := by
  obtain ⟨rest, hdis, hin, hto, hof⟩ := UpdF.turn U
  refine Hint.out (word_raw prog p loose w mean mg mb dp un gd cn cs a ccd cl outer A₀ base h₀ L m s Q E b d st t1 t2 tm n size rest B F X (fun q hq => N q (hin q hq)) T hk hdp hun hdis hb hm1 hm2 ?_)
  intro l ys ns nn d' st' t1' t2' n' h' tk' F' N' off hy hl hr hb'
  refine hret l ys ns nn d' st' t1' t2' n' h' tk' F' (fun q hq => N' q ?_) (all_off fun q hq => off_all off q (hof _ q hq)) hy hl hr hb'
  rcases List.mem_cons.mp hq with rfl | hq
  · exact .head _
  · exact .tail _ (hof _ q hq)
theorem rows3 : True := by
  k_with_none
  k_with "k_all" => (first | assumption | exact lt_all (by assumption) | exact off_all (by assumption) | ((repeat' (with_reducible rename _ ∧ _ => hc9; cases hc9)); first | exact lt_all (by assumption) | exact lt_all1 (by assumption) | exact lt_all2 (by assumption) | exact off_all (by assumption)) | (refine List.forall_mem_append.mpr (And.intro ?_ ?_) <;> k_all))
  k_with "ktr_enter" => (first   | (refine' code_def ?k1 ?k2 ?k3 ?k4 ?k5 ?kA ?kF ?kK ?k6 ?k7 ?k8 ?k9 ?kB ?_ ?c2 ?c3 ?c4 ?c5; (case kA => exact rfl); (case kF => exact rfl); (case kK => first | exact rfl | assumption); (case k1 => k_asm); (case k2 => k_asm); (case k3 => k_asm); (case k4 => k_asm); (case k5 => k_asm); (case k6 => k_is); (case k7 => k_is); (case k8 => ktr_room); (case k9 => first | exact BindsTo.of_eq rfl | exact binds_K (by k_in) rfl (by k_is) rfl rfl rfl); (case c5 => decide); (case kB => exact locs rfl); (case c2 => exact rfl); (case c3 => exact rfl); (case c4 => exact rfl); k_whole; intro g' L' h' FG' F' N' B' X' T'; (try dsimp only); (try k_lift B'); (try k_fold))   | (refine' code_defC ?k1 ?k2 ?k3 ?k4 ?k5 ?kA ?kF ?kK ?k6 ?k7 ?k8 ?k9 ?kB ?kD ?_ ?c2 ?c3 ?c4; (case kA => exact rfl); (case kF => exact rfl); (case kK => first | exact rfl | assumption); (case k1 => k_asm); (case k2 => k_asm); (case k3 => k_asm); (case k4 => k_asm); (case k5 => k_asm); (case k6 => k_is); (case k7 => k_is); (case k8 => ktr_room); (case k9 => first | exact BindsTo.of_eq rfl | exact binds_K (by k_in) rfl (by k_is) rfl rfl rfl); (case kB => exact rfl); (case kD => decide +kernel); (case c2 => exact rfl); (case c3 => exact rfl); (case c4 => exact rfl); k_whole; intro g' L' h' tk' cells' FG' F' N' Y' B' X' T' l1; (try k_lt l1); k_cells Y'; (try simp only [List.cons_append, List.nil_append] at N'); (try dsimp only); (try k_lift B'); (try k_fold)))
  k_with "k_room" => (ktr_room)
  k_with "units_room" => (ktr_units)
  k_with "k_enter" => (((fail_if_success k_inElt); ktr_enter))
  k_with "call ref" => ((k_here; (with_reducible show wpAny _ _ (call (Value.ref 323) _ _) _ _ _); k_dflt (refine' take_use ?k1 ?k2 ?k3 ?k4 ?k5 ?kK ?kd ?ku ?kU ?kb ?p1 ?p2 ?_; (case k1 => k_asm); (case k2 => k_asm); (case k3 => k_asm); (case k4 => k_asm); (case k5 => k_asm); (case kK => first | exact rfl | assumption); (case kd => ktr_room); (case ku => ktr_units); (case kU => k_updF); (case kb => assumption); (case p1 => first | decide | omega); (case p2 => first | decide | omega); k_whole); intro r' t' d' st' t1' t2' n' h' tk' F' N' hb' hr0' hr1'; (try dsimp only); (try k_fold)))
  k_with "call ref" => ((k_here; (with_reducible show wpAny _ _ (call (Value.ref 328) _ _) _ _ _); k_dflt (refine' word_use ?k1 ?k2 ?k3 ?k4 ?k5 ?kK ?kd ?ku ?kU ?kb ?p1 ?p2 ?_; (case k1 => k_asm); (case k2 => k_asm); (case k3 => k_asm); (case k4 => k_asm); (case k5 => k_asm); (case kK => first | exact rfl | assumption); (case kd => ktr_room); (case ku => ktr_units); (case kU => k_updF); (case kb => assumption); (case p1 => first | decide | omega); (case p2 => first | decide | omega); k_whole); intro l' ys' ns' nn' d' st' t1' t2' n' h' tk' F' N' off' hy' hl' hr' hb'; (try dsimp only at N' off'); (try simp only [LCg.Off1, and_true] at off'); (try dsimp only); (try k_fold)))
  k_with "kba_in" => (first | assumption | exact in_of (by assumption) | (refine in_take _ ?_; kba_in) | (refine in_rep _ ?_; kba_in) | (refine in_app ?_ ?_ <;> kba_in) | (refine in_set ?_ (by omega); kba_in))
  k_with "setItem ref int" => ((k_here; (with_reducible show wpAny _ _ (setItem (Value.ref _) (Value.int _ _) (Value.int _ _)) _ _ _); k_dflt (refine' ksa_set ?k1 ?k2 ?k3 ?k4 ?k5 ?k6 ?k7 ?_; (case k1 => k_asm); (case k2 => k_asm); (case k3 => k_upd); (case k4 => with_reducible assumption); (case k5 => assumption); (case k6 => assumption); (case k7 => omega); k_whole); intro h' F' N' hi' hl' hs'; clear hs'; (try k_sweep)))
  k_with "exec If Compare cons nil" => ((k_here; (fail_if_success (have hJ9 : CutMark := by with_reducible assumption)); k_dflt (refine cut_mid (by assumption) (by k_asm) ?_ ?_); intro hJ9; rotate_left; (repeat (with_reducible rename _ ∧ _ => hc9; clear hc9)); intro D' vs' ns' nn' bg' tg' u' d' st' t1' t2' n' h' tk' hI' h5' h30' hin' hg0' hb' hne' off' F' N'; rotate_left; (all_goals (try dsimp only)); (all_goals (try k_fold))))
  k_with "MidT" => ((k_dflt (refine' mid_el ?kF ?ht ?hg ?hm ?kN ?ks ?hi ?h5 ?h30 ?hin ?h0 ?hb ?hne ?off; (case kF => assumption); (case ht => rfl); (case hg => rfl); (case hm => (intro z h1 h2 h3 h4 h5; simp only [h1, h2, h3, h4, h5, if_false])); (case kN => assumption); (case ks => kcf_all); (case hi => l_ints); (case hin => kba_in); (case h5 => ((try simp only [List.length_append, List.length_take, List.length_set]); omega)); (case h30 => ((try simp only [List.length_append, List.length_take, List.length_set]); omega)); (case h0 => omega); (case hb => assumption); (case hne => first | assumption | k_ne); (case off => first | assumption | ((repeat' (with_reducible rename _ ∧ _ => hc9; cases hc9)); exact all_off (lt_all (by assumption)))))))
  k_with "subscriptTail Name Slice ref ref" => ((k_here; (with_reducible show wpAny _ _ (subscriptTail _ (PySem.Expr.Slice _ _ none _) (Value.ref _) (Value.ref _)) _ _ _); k_dflt (first | (refine' slice_up ?F ?N ?l ?i ?z0 ?z1 ?_ ?s ?t; (case F => k_asm); (case N => k_asm); (case l => k_mem); (case i => l_ints); (case z0 => omega); (case z1 => exact rep_size (by omega) (by omega)); (case s => with_unfolding_all rfl); (case t => kmk_pure)) | (refine' slice_up (s := ⟨_, _, _, _, _⟩) ?F ?N ?l ?i ?z0 ?z1 ?_ ?s ?t; (case F => k_asm); (case N => k_asm); (case l => k_mem); (case i => l_ints); (case z0 => omega); (case z1 => exact rep_size (by omega) (by omega)); (case s => with_unfolding_all rfl); (case t => kmk_pure))); intro D' ws' h' F' N' l1 hI' hL'; (try (have hG' := rep_geq hL' (by omega))); (try k_lt l1); (try k_sweep); (try dsimp only)))
  trivial
set_option maxRecDepth 100000 in
set_option maxHeartbeats 16000000 in
theorem text_raw (prog p : Program) (loose : List Str) (w : World) (mean : ExcName → Option Value) (mg mb : Str → Option Value) (dp un : Nat) (gd : Option (List Code)) (cn : Str) (cs : Scope) (a : Addr) (ccd : Value) (cl : List (Str × Addr)) (outer : List Env) (A₀ : Around) (base h₀ : Heap) (L : Addr) (m : Str → Option Value) (s : Shared) (Q E : Value → Shared → Prop)
    (b : Addr) (d st : Int) (t1 t2 tm : Tok) (n : Nat) (most : Int) (rest : List (Addr × Obj))
    (B : Below A₀ base outer h₀) (F : Fr h₀ L s.heap m) (X : (hd.heap_1 w.params).In h₀) (N : News h₀ L s.heap ((b, boxO d st t1 t2 n) :: rest)) (T : Top p loose mean mg mb h₀) (hk : cs.kind = .function)
    (hdp : dp + 3 < recursionLimit) (hun : un + 24 < cLine)
    (hdis : ∀ p ∈ rest, p.1 ≠ b) (hb : BoxOk d st) (hm1 : 2 ≤ most) (hm2 : most ≤ 4)
    (hret : ∀ (l : Addr) (bs : Array UInt8) (ks : List Int) (place : Int) (tb tp : Tok) (nn : Nat) (d' st' : Int) (t1' t2' : Tok) (n' : Nat) (h' : Heap) (tk' : Nat), Fr h₀ L h' m → News h₀ L h' ((l, listOf #[.bytes bs tb, .int place tp] nn) :: (b, boxO d' st' t1' t2' n') :: rest) → PyProof.Rows.LCg.Off1 l ((b, boxO d' st' t1' t2' n') :: rest) → BoxOk d' st' → KBw.bInts bs = ks → 5 ≤ ks.length → ks.length ≤ 60 → 0 ≤ place → place < ks.length → Q (.ref l) { s with heap := h', toks := tk' }) :
    Hint PySem.Challenge.rw_tg0038_01 hd.heap_1 (wpAny (model prog w) (ktrTop dp un gd cn cs L a ccd cl outer) (call (.ref 335) [.ref b, .int most tm]) Q E s) := by
  have bm : BoxMark b rest := ⟨⟩
  w_top off
  k_fill
  unfold Hint
  refine wpAny_call ?_
  k_dflt ktr_enter
  k_steps
  refine' hret _ _ _ _ _ _ _ _ _ _ _ _ _ _ ?kF (cb_drop ?kN ?ks) ?ko ?kb ?kk ?k5 ?k60 ?p0 ?p1
  case kF => k_asm
  case kN => k_asm
  case ks => kcf_all
  case kb => assumption
  case kk => exact KBa.ints_make (by assumption)
  case k5 => omega
  case k60 => omega
  case p0 => split <;> omega
  case p1 => split <;> omega
  case ko =>
    (repeat' (with_reducible rename _ ∧ _ => hc9; cases hc9))
    exact ⟨Nat.ne_of_lt (by assumption), all_off (lt_all (by assumption))⟩
theorem text_use {prog p : Program} {loose : List Str} {w : World} {mean : ExcName → Option Value} {mg mb : Str → Option Value} {dp un : Nat} {gd : Option (List Code)} {cn : Str} {cs : Scope} {a : Addr} {ccd : Value} {cl : List (Str × Addr)} {outer : List Env} {A₀ : Around} {base h₀ : Heap} {L : Addr} {m : Str → Option Value} {s : Shared} {Q E : Value → Shared → Prop}
    {b : Addr} {d st : Int} {t1 t2 tm : Tok} {n : Nat} {most : Int} {news : List (Addr × Obj)} {g : Obj → List (Addr × Obj)}
    (B : Below A₀ base outer h₀) (F : Fr h₀ L s.heap m) (X : (hd.heap_1 w.params).In h₀) (N : News h₀ L s.heap news) (T : Top p loose mean mg mb h₀) (hk : cs.kind = .function)
    (hdp : dp + 3 < recursionLimit) (hun : un + 24 < cLine)
    (U : UpdF b (boxO d st t1 t2 n) news g) (hb : BoxOk d st) (hm1 : 2 ≤ most) (hm2 : most ≤ 4)
    (hret : ∀ (l : Addr) (bs : Array UInt8) (ks : List Int) (place : Int) (tb tp : Tok) (nn : Nat) (d' st' : Int) (t1' t2' : Tok) (n' : Nat) (h' : Heap) (tk' : Nat), Fr h₀ L h' m → News h₀ L h' ((l, listOf #[.bytes bs tb, .int place tp] nn) :: g (boxO d' st' t1' t2' n')) → PyProof.Rows.LCg.Off1 l (g (boxO d' st' t1' t2' n')) → BoxOk d' st' → KBw.bInts bs = ks → 5 ≤ ks.length → ks.length ≤ 60 → 0 ≤ place → place < ks.length → Q (.ref l) { s with heap := h', toks := tk' }) :
    wpAny (model prog w) (ktrTop dp un gd cn cs L a ccd cl outer) (call (.ref 335) [.ref b, .int most tm]) Q E s := by
  obtain ⟨rest, hdis, hin, hto, hof⟩ := UpdF.turn U
  refine Hint.out (text_raw prog p loose w mean mg mb dp un gd cn cs a ccd cl outer A₀ base h₀ L m s Q E b d st t1 t2 tm n most rest B F X (fun q hq => N q (hin q hq)) T hk hdp hun hdis hb hm1 hm2 ?_)
  intro l bs ks place tb tp nn d' st' t1' t2' n' h' tk' F' N' off hb' hks h5 h60 p0 p1
  refine hret l bs ks place tb tp nn d' st' t1' t2' n' h' tk' F' (fun q hq => N' q ?_) (all_off fun q hq => off_all off q (hof _ q hq)) hb' hks h5 h60 p0 p1
  rcases List.mem_cons.mp hq with rfl | hq
  · exact .head _
  · exact .tail _ (hof _ q hq)
theorem rows4 : True := by
  k_with_none
  k_with "k_all" => (first | assumption | exact lt_all (by assumption) | exact off_all (by assumption) | ((repeat' (with_reducible rename _ ∧ _ => hc9; cases hc9)); first | exact lt_all (by assumption) | exact lt_all1 (by assumption) | exact lt_all2 (by assumption) | exact off_all (by assumption)) | (refine List.forall_mem_append.mpr (And.intro ?_ ?_) <;> k_all))
  k_with "ktr_enter" => (first   | (refine' code_def ?k1 ?k2 ?k3 ?k4 ?k5 ?kA ?kF ?kK ?k6 ?k7 ?k8 ?k9 ?kB ?_ ?c2 ?c3 ?c4 ?c5; (case kA => exact rfl); (case kF => exact rfl); (case kK => first | exact rfl | assumption); (case k1 => k_asm); (case k2 => k_asm); (case k3 => k_asm); (case k4 => k_asm); (case k5 => k_asm); (case k6 => k_is); (case k7 => k_is); (case k8 => ktr_room); (case k9 => first | exact BindsTo.of_eq rfl | exact binds_K (by k_in) rfl (by k_is) rfl rfl rfl); (case c5 => decide); (case kB => exact locs rfl); (case c2 => exact rfl); (case c3 => exact rfl); (case c4 => exact rfl); k_whole; intro g' L' h' FG' F' N' B' X' T'; (try dsimp only); (try k_lift B'); (try k_fold))   | (refine' code_defC ?k1 ?k2 ?k3 ?k4 ?k5 ?kA ?kF ?kK ?k6 ?k7 ?k8 ?k9 ?kB ?kD ?_ ?c2 ?c3 ?c4; (case kA => exact rfl); (case kF => exact rfl); (case kK => first | exact rfl | assumption); (case k1 => k_asm); (case k2 => k_asm); (case k3 => k_asm); (case k4 => k_asm); (case k5 => k_asm); (case k6 => k_is); (case k7 => k_is); (case k8 => ktr_room); (case k9 => first | exact BindsTo.of_eq rfl | exact binds_K (by k_in) rfl (by k_is) rfl rfl rfl); (case kB => exact rfl); (case kD => decide +kernel); (case c2 => exact rfl); (case c3 => exact rfl); (case c4 => exact rfl); k_whole; intro g' L' h' tk' cells' FG' F' N' Y' B' X' T' l1; (try k_lt l1); k_cells Y'; (try simp only [List.cons_append, List.nil_append] at N'); (try dsimp only); (try k_lift B'); (try k_fold)))
  k_with "k_room" => (ktr_room)
  k_with "units_room" => (ktr_units)
  k_with "k_enter" => (((fail_if_success k_inElt); ktr_enter))
  k_with "k_is" => (with_reducible assumption)
  k_with "k_get" => (with_reducible assumption)
  trivial
theorem alike_end {ks : List Int} {place other limit k : Int} (hp : 0 ≤ place) (ho : 0 ≤ other) (hl : 0 ≤ limit) (h1 : 0 ≤ k) (h2 : k ≤ max 0 limit)
    (h3 : ∀ j : Int, 0 ≤ j → j < k → (if j < limit then if (ks.getD (place + j).toNat 0 == ks.getD (other + j).toNat 0) = true then true else false else false) = true)
    (h4 : (if k < limit then if (ks.getD (place + k).toNat 0 == ks.getD (other + k).toNat 0) = true then true else false else false) = false) :
    ∃ c : Nat, k = (c : Int) ∧ IsAl (fOf ks) place.toNat other.toNat limit.toNat c := by
  obtain ⟨c, rfl⟩ := Int.eq_ofNat_of_zero_le h1
  obtain ⟨p, rfl⟩ := Int.eq_ofNat_of_zero_le hp
  obtain ⟨o, rfl⟩ := Int.eq_ofNat_of_zero_le ho
  obtain ⟨l, rfl⟩ := Int.eq_ofNat_of_zero_le hl
  refine ⟨c, rfl, ?_, ?_, ?_⟩
  · simp only [Int.toNat_natCast] at *; omega
  · intro x hx
    have := h3 x (by omega) (by omega)
    simp only [← Int.natCast_add, Int.toNat_natCast] at this ⊢
    by_cases q : (x : Int) < l
    · rw [if_pos q] at this
      simpa using this
    · rw [if_neg q] at this; cases this
  · intro hx
    simp only [← Int.natCast_add, Int.toNat_natCast] at h4 hx ⊢
    rw [if_pos (by omega)] at h4
    simpa using h4
set_option maxRecDepth 100000 in
set_option maxHeartbeats 8000000 in
theorem alike_raw (prog p : Program) (loose : List Str) (w : World) (mean : ExcName → Option Value) (mg mb : Str → Option Value) (dp un : Nat) (gd : Option (List Code)) (cn : Str) (cs : Scope) (a : Addr) (ccd : Value) (cl : List (Str × Addr)) (outer : List Env) (A₀ : Around) (base h₀ : Heap) (L : Addr) (m : Str → Option Value) (s : Shared) (Q E : Value → Shared → Prop)
    (x C dx : Addr) (es : List DictEntry) (n : Nat) (bs : Array UInt8) (ks : List Int) (tb t1 t2 t3 t4 : Tok) (place other limit : Int) (news : List (Addr × Obj))
    (B : Below A₀ base outer h₀) (F : Fr h₀ L s.heap m) (X : (hd.heap_1 w.params).In h₀) (N : News h₀ L s.heap news) (T : Top p loose mean mg mb h₀) (hk : cs.kind = .function)
    (hdp : dp + 1 < recursionLimit) (hun : un + 8 < cLine)
    (hx : (x, instObj C dx) ∈ news) (hdx : (dx, dictOf es n) ∈ news) (hbs : KBw.bInts bs = ks)
    (k1 : plainGet (hd.heap_1 w.params) C (Str.ofString "octets") = true) (k2 : hasDictIn (hd.heap_1 w.params) C = true) (k3 : findIn (hd.heap_1 w.params) (.ref C) (Str.ofString "octets") = some none)
    (g1 : getL (Str.ofString "octets") es = some (some (.bytes bs tb)))
    (hlen : ks.length ≤ 1000) (hp0 : 0 ≤ place) (ho0 : 0 ≤ other) (hop : other < place) (hl0 : 0 ≤ limit) (hl1 : place + limit ≤ ks.length)
    (hret : ∀ (c : Nat) (t : Tok) (h' : Heap) (tk' : Nat), Fr h₀ L h' m → News h₀ L h' news → IsAl (fOf ks) place.toNat other.toNat limit.toNat c → Q (.int c t) { s with heap := h', toks := tk' }) :
    Hint PySem.Challenge.rw_tg0038_01 hd.heap_1 (wpAny (model prog w) (ktrTop dp un gd cn cs L a ccd cl outer) (call (.ref 152) [.ref x, .int place t1, .int other t2, .int 0 t3, .int limit t4]) Q E s) := by
  w_top off
  k_fill
  unfold Hint
  refine wpAny_call ?_
  k_dflt ktr_enter
  k_steps
  rename (∀ j : Int, 0 ≤ j → j < _ → _ = true) => hA
  rename (_ = false) => hB
  obtain ⟨c, rfl, hc⟩ := alike_end hp0 ho0 hl0 (by assumption) (by assumption) hA hB
  exact hret _ _ _ _ (by k_asm) (by k_asm) hc
theorem alike_use {prog p : Program} {loose : List Str} {w : World} {mean : ExcName → Option Value} {mg mb : Str → Option Value} {dp un : Nat} {gd : Option (List Code)} {cn : Str} {cs : Scope} {a : Addr} {ccd : Value} {cl : List (Str × Addr)} {outer : List Env} {A₀ : Around} {base h₀ : Heap} {L : Addr} {m : Str → Option Value} {s : Shared} {Q E : Value → Shared → Prop}
    {x C dx : Addr} {es : List DictEntry} {n : Nat} {bs : Array UInt8} {ks : List Int} {tb t1 t2 t3 t4 : Tok} {place other limit : Int} {news : List (Addr × Obj)}
    (B : Below A₀ base outer h₀) (F : Fr h₀ L s.heap m) (X : (hd.heap_1 w.params).In h₀) (N : News h₀ L s.heap news) (T : Top p loose mean mg mb h₀) (hk : cs.kind = .function)
    (hdp : dp + 1 < recursionLimit) (hun : un + 8 < cLine)
    (hx : (x, instObj C dx) ∈ news) (hdx : (dx, dictOf es n) ∈ news) (hbs : KBw.bInts bs = ks)
    (k1 : plainGet (hd.heap_1 w.params) C (Str.ofString "octets") = true) (k2 : hasDictIn (hd.heap_1 w.params) C = true) (k3 : findIn (hd.heap_1 w.params) (.ref C) (Str.ofString "octets") = some none)
    (g1 : getL (Str.ofString "octets") es = some (some (.bytes bs tb)))
    (hlen : ks.length ≤ 1000) (hp0 : 0 ≤ place) (ho0 : 0 ≤ other) (hop : other < place) (hl0 : 0 ≤ limit) (hl1 : place + limit ≤ ks.length)
    (hret : ∀ (c : Nat) (t : Tok) (h' : Heap) (tk' : Nat), Fr h₀ L h' m → News h₀ L h' news → IsAl (fOf ks) place.toNat other.toNat limit.toNat c → Q (.int c t) { s with heap := h', toks := tk' }) :
    wpAny (model prog w) (ktrTop dp un gd cn cs L a ccd cl outer) (call (.ref 152) [.ref x, .int place t1, .int other t2, .int 0 t3, .int limit t4]) Q E s :=
  Hint.out (alike_raw prog p loose w mean mg mb dp un gd cn cs a ccd cl outer A₀ base h₀ L m s Q E x C dx es n bs ks tb t1 t2 t3 t4 place other limit news B F X N T hk hdp hun hx hdx hbs k1 k2 k3 g1 hlen hp0 ho0 hop hl0 hl1 hret)
theorem rows5 : True := by
  k_with_none
  k_with "k_all" => (first | assumption | exact lt_all (by assumption) | exact off_all (by assumption) | ((repeat' (with_reducible rename _ ∧ _ => hc9; cases hc9)); first | exact lt_all (by assumption) | exact lt_all1 (by assumption) | exact lt_all2 (by assumption) | exact off_all (by assumption)) | (refine List.forall_mem_append.mpr (And.intro ?_ ?_) <;> k_all))
  k_with "ktr_enter" => (first   | (refine' code_def ?k1 ?k2 ?k3 ?k4 ?k5 ?kA ?kF ?kK ?k6 ?k7 ?k8 ?k9 ?kB ?_ ?c2 ?c3 ?c4 ?c5; (case kA => exact rfl); (case kF => exact rfl); (case kK => first | exact rfl | assumption); (case k1 => k_asm); (case k2 => k_asm); (case k3 => k_asm); (case k4 => k_asm); (case k5 => k_asm); (case k6 => k_is); (case k7 => k_is); (case k8 => ktr_room); (case k9 => first | exact BindsTo.of_eq rfl | exact binds_K (by k_in) rfl (by k_is) rfl rfl rfl); (case c5 => decide); (case kB => exact locs rfl); (case c2 => exact rfl); (case c3 => exact rfl); (case c4 => exact rfl); k_whole; intro g' L' h' FG' F' N' B' X' T'; (try dsimp only); (try k_lift B'); (try k_fold))   | (refine' code_defC ?k1 ?k2 ?k3 ?k4 ?k5 ?kA ?kF ?kK ?k6 ?k7 ?k8 ?k9 ?kB ?kD ?_ ?c2 ?c3 ?c4; (case kA => exact rfl); (case kF => exact rfl); (case kK => first | exact rfl | assumption); (case k1 => k_asm); (case k2 => k_asm); (case k3 => k_asm); (case k4 => k_asm); (case k5 => k_asm); (case k6 => k_is); (case k7 => k_is); (case k8 => ktr_room); (case k9 => first | exact BindsTo.of_eq rfl | exact binds_K (by k_in) rfl (by k_is) rfl rfl rfl); (case kB => exact rfl); (case kD => decide +kernel); (case c2 => exact rfl); (case c3 => exact rfl); (case c4 => exact rfl); k_whole; intro g' L' h' tk' cells' FG' F' N' Y' B' X' T' l1; (try k_lt l1); k_cells Y'; (try simp only [List.cons_append, List.nil_append] at N'); (try dsimp only); (try k_lift B'); (try k_fold)))
  k_with "k_room" => (ktr_room)
  k_with "units_room" => (ktr_units)
  k_with "k_enter" => (((fail_if_success k_inElt); ktr_enter))
  k_with "k_is" => (with_reducible assumption)
  k_with "k_get" => (with_reducible assumption)
  k_with "call ref" => ((k_here; (with_reducible show wpAny _ _ (call (Value.ref 152) _ _) _ _ _); k_dflt (refine' alike_use ?k1 ?k2 ?k3 ?k4 ?k5 ?kK ?kd ?ku ?hx ?hdx ?hb ?e1 ?e2 ?e3 ?g1 ?p0 ?p1 ?p2 ?p3 ?p4 ?p5 ?_; (case k1 => k_asm); (case k2 => k_asm); (case k3 => k_asm); (case k4 => k_asm); (case k5 => k_asm); (case kK => first | exact rfl | assumption); (case kd => ktr_room); (case ku => ktr_units); (case hx => k_mem); (case hdx => k_mem); (case hb => assumption); (case e1 => assumption); (case e2 => assumption); (case e3 => assumption); (case g1 => assumption); (case p0 => assumption); (case p1 => omega); (case p2 => omega); (case p3 => omega); (case p4 => omega); (case p5 => omega); k_whole); intro c' t' h' tk' F' N' hAl'; (try dsimp only); (try k_fold)))
  trivial
/-- the part of the text that a finder's class is asked of -/
structure ClsOk (K : Frag) (C : Addr) : Prop where
  p1 : plainGet K C (Str.ofString "octets") = true
  p2 : plainGet K C (Str.ofString "window") = true
  p3 : plainGet K C (Str.ofString "length") = true
  p4 : plainGet K C (Str.ofString "alike") = true
  p5 : plainGet K C (Str.ofString "limit") = true
  hd : hasDictIn K C = true
  f1 : findIn K (.ref C) (Str.ofString "octets") = some none
  f2 : findIn K (.ref C) (Str.ofString "window") = some none
  f3 : findIn K (.ref C) (Str.ofString "length") = some (some (.ref 145))
  f4 : findIn K (.ref C) (Str.ofString "alike") = some (some (.ref 152))
  f5 : findIn K (.ref C) (Str.ofString "limit") = some (some (.ref 138))
  p6 : plainGet K C (Str.ofString "repeat") = true
  f6 : findIn K (.ref C) (Str.ofString "repeat") = some (some (.ref 166))
structure ObjOk (es : List DictEntry) (bs : Array UInt8) (tb : Tok) (win : Int) (tw : Tok) : Prop where
  g1 : getL (Str.ofString "octets") es = some (some (.bytes bs tb))
  g2 : getL (Str.ofString "window") es = some (some (.int win tw))
  g3 : getL (Str.ofString "length") es = some none
  g4 : getL (Str.ofString "alike") es = some none
  g5 : getL (Str.ofString "limit") es = some none
  g6 : getL (Str.ofString "repeat") es = some none
set_option maxRecDepth 100000 in
set_option maxHeartbeats 8000000 in
theorem repeat_raw (prog p : Program) (loose : List Str) (w : World) (mean : ExcName → Option Value) (mg mb : Str → Option Value) (dp un : Nat) (gd : Option (List Code)) (cn : Str) (cs : Scope) (a : Addr) (ccd : Value) (cl : List (Str × Addr)) (outer : List Env) (A₀ : Around) (base h₀ : Heap) (L : Addr) (m : Str → Option Value) (s : Shared) (Q E : Value → Shared → Prop)
    (x C dx : Addr) (es : List DictEntry) (n : Nat) (bs : Array UInt8) (ks : List Int) (tb tw t1 t2 t3 : Tok) (win place dist most : Int) (news : List (Addr × Obj))
    (B : Below A₀ base outer h₀) (F : Fr h₀ L s.heap m) (X : (hd.heap_1 w.params).In h₀) (N : News h₀ L s.heap news) (T : Top p loose mean mg mb h₀) (hk : cs.kind = .function)
    (hdp : dp + 3 < recursionLimit) (hun : un + 24 < cLine)
    (hx : (x, instObj C dx) ∈ news) (hdx : (dx, dictOf es n) ∈ news) (hbs : KBw.bInts bs = ks)
    (hC : ClsOk (hd.heap_1 w.params) C) (hO : ObjOk es bs tb win tw)
    (hlen : ks.length ≤ 1000) (hp0 : 0 ≤ place) (hp1 : place ≤ ks.length) (hm0 : 0 ≤ most)
    (hret : ∀ (c : Nat) (t : Tok) (h' : Heap) (tk' : Nat), Fr h₀ L h' m → News h₀ L h' news → IsR ks win place dist most c → Q (.int c t) { s with heap := h', toks := tk' }) :
    Hint PySem.Challenge.rw_tg0038_01 hd.heap_1 (wpAny (model prog w) (ktrTop dp un gd cn cs L a ccd cl outer) (call (.ref 166) [.ref x, .int place t1, .int dist t2, .int most t3]) Q E s) := by
  obtain ⟨a1, a2, a3, a4, a5, a6, a7, a8, a9, a10, a11, a12, a13⟩ := hC
  obtain ⟨g1, g2, g3, g4, g5, g6⟩ := hO
  w_top off
  k_fill
  unfold Hint
  refine wpAny_call ?_
  k_dflt ktr_enter
  k_steps
  · exact hret 0 _ _ _ (by k_asm) (by k_asm) ⟨fun _ => rfl, fun h1 h2 h3 => by omega⟩
  · exact hret 0 _ _ _ (by k_asm) (by k_asm) ⟨fun _ => rfl, fun h1 h2 h3 => by omega⟩
  · exact hret 0 _ _ _ (by k_asm) (by k_asm) ⟨fun _ => rfl, fun h1 h2 h3 => by omega⟩
  · rename (IsAl _ _ _ _ _) => hA
    refine hret _ _ _ _ (by k_asm) (by k_asm) ⟨fun h => by omega, fun h1 h2 h3 => ?_⟩
    rw [show (place - dist).toNat = place.toNat - dist.toNat by omega] at hA
    rw [show (if (ks.length : Int) - place < most then (ks.length : Int) - place else most) = min most ((ks.length : Int) - place) by split <;> omega] at hA
    exact hA
theorem repeat_use {prog p : Program} {loose : List Str} {w : World} {mean : ExcName → Option Value} {mg mb : Str → Option Value} {dp un : Nat} {gd : Option (List Code)} {cn : Str} {cs : Scope} {a : Addr} {ccd : Value} {cl : List (Str × Addr)} {outer : List Env} {A₀ : Around} {base h₀ : Heap} {L : Addr} {m : Str → Option Value} {s : Shared} {Q E : Value → Shared → Prop}
    {x C dx : Addr} {es : List DictEntry} {n : Nat} {bs : Array UInt8} {ks : List Int} {tb tw t1 t2 t3 : Tok} {win place dist most : Int} {news : List (Addr × Obj)}
    (B : Below A₀ base outer h₀) (F : Fr h₀ L s.heap m) (X : (hd.heap_1 w.params).In h₀) (N : News h₀ L s.heap news) (T : Top p loose mean mg mb h₀) (hk : cs.kind = .function)
    (hdp : dp + 3 < recursionLimit) (hun : un + 24 < cLine)
    (hx : (x, instObj C dx) ∈ news) (hdx : (dx, dictOf es n) ∈ news) (hbs : KBw.bInts bs = ks)
    (hC : ClsOk (hd.heap_1 w.params) C) (hO : ObjOk es bs tb win tw)
    (hlen : ks.length ≤ 1000) (hp0 : 0 ≤ place) (hp1 : place ≤ ks.length) (hm0 : 0 ≤ most)
    (hret : ∀ (c : Nat) (t : Tok) (h' : Heap) (tk' : Nat), Fr h₀ L h' m → News h₀ L h' news → IsR ks win place dist most c → Q (.int c t) { s with heap := h', toks := tk' }) :
    wpAny (model prog w) (ktrTop dp un gd cn cs L a ccd cl outer) (call (.ref 166) [.ref x, .int place t1, .int dist t2, .int most t3]) Q E s :=
  Hint.out (repeat_raw prog p loose w mean mg mb dp un gd cn cs a ccd cl outer A₀ base h₀ L m s Q E x C dx es n bs ks tb tw t1 t2 t3 win place dist most news B F X N T hk hdp hun hx hdx hbs hC hO hlen hp0 hp1 hm0 hret)
theorem rows6 : True := by
  k_with_none
  k_with "k_all" => (first | assumption | exact lt_all (by assumption) | exact off_all (by assumption) | ((repeat' (with_reducible rename _ ∧ _ => hc9; cases hc9)); first | exact lt_all (by assumption) | exact lt_all1 (by assumption) | exact lt_all2 (by assumption) | exact off_all (by assumption)) | (refine List.forall_mem_append.mpr (And.intro ?_ ?_) <;> k_all))
  k_with "ktr_enter" => (first   | (refine' code_def ?k1 ?k2 ?k3 ?k4 ?k5 ?kA ?kF ?kK ?k6 ?k7 ?k8 ?k9 ?kB ?_ ?c2 ?c3 ?c4 ?c5; (case kA => exact rfl); (case kF => exact rfl); (case kK => first | exact rfl | assumption); (case k1 => k_asm); (case k2 => k_asm); (case k3 => k_asm); (case k4 => k_asm); (case k5 => k_asm); (case k6 => k_is); (case k7 => k_is); (case k8 => ktr_room); (case k9 => first | exact BindsTo.of_eq rfl | exact binds_K (by k_in) rfl (by k_is) rfl rfl rfl); (case c5 => decide); (case kB => exact locs rfl); (case c2 => exact rfl); (case c3 => exact rfl); (case c4 => exact rfl); k_whole; intro g' L' h' FG' F' N' B' X' T'; (try dsimp only); (try k_lift B'); (try k_fold))   | (refine' code_defC ?k1 ?k2 ?k3 ?k4 ?k5 ?kA ?kF ?kK ?k6 ?k7 ?k8 ?k9 ?kB ?kD ?_ ?c2 ?c3 ?c4; (case kA => exact rfl); (case kF => exact rfl); (case kK => first | exact rfl | assumption); (case k1 => k_asm); (case k2 => k_asm); (case k3 => k_asm); (case k4 => k_asm); (case k5 => k_asm); (case k6 => k_is); (case k7 => k_is); (case k8 => ktr_room); (case k9 => first | exact BindsTo.of_eq rfl | exact binds_K (by k_in) rfl (by k_is) rfl rfl rfl); (case kB => exact rfl); (case kD => decide +kernel); (case c2 => exact rfl); (case c3 => exact rfl); (case c4 => exact rfl); k_whole; intro g' L' h' tk' cells' FG' F' N' Y' B' X' T' l1; (try k_lt l1); k_cells Y'; (try simp only [List.cons_append, List.nil_append] at N'); (try dsimp only); (try k_lift B'); (try k_fold)))
  k_with "k_room" => (ktr_room)
  k_with "units_room" => (ktr_units)
  k_with "k_enter" => (((fail_if_success k_inElt); ktr_enter))
  trivial
theorem gcd_turn {a b : Int} (ha : 0 ≤ a) (hb : 0 < b) : 0 ≤ a.fmod b ∧ a.fmod b < b ∧ Nat.gcd b.toNat (a.fmod b).toNat = Nat.gcd a.toNat b.toNat := by
  obtain ⟨m, rfl⟩ := Int.eq_ofNat_of_zero_le ha
  obtain ⟨n, rfl⟩ := Int.eq_ofNat_of_zero_le (Int.le_of_lt hb)
  have e : ((m : Int).fmod (n : Int)) = ((m % n : Nat) : Int) := by
    rw [Int.fmod_eq_emod_of_nonneg _ (by omega)]; rfl
  rw [e]
  refine ⟨by omega, ?_, ?_⟩
  · have : m % n < n := Nat.mod_lt _ (by omega)
    omega
  · simp only [Int.toNat_natCast]
    rw [Nat.gcd_comm, ← Nat.gcd_rec, Nat.gcd_comm]
theorem gcd_less {a b : Int} (ha : 0 ≤ a) (hb : 0 < b) : (a.fmod b).toNat < b.toNat := by
  have := (gcd_turn ha hb).1
  have := (gcd_turn ha hb).2.1
  omega
theorem div_end {a b : Int} {g : Nat} (ha : 0 ≤ a) (hb : b.toNat = 0) (h : Nat.gcd a.toNat b.toNat = g) : a = (g : Int) := by
  rw [hb, Nat.gcd_zero_right] at h
  omega
theorem gcd_le {n : Nat} (y : Int) (h : 1 ≤ y) : 1 ≤ Nat.gcd n y.toNat ∧ ((Nat.gcd n y.toNat : Nat) : Int) ≤ y := by
  have h1 := Nat.gcd_pos_of_pos_right n (show 0 < y.toNat by omega)
  have h2 := Nat.gcd_le_right n (show 0 < y.toNat by omega)
  omega
theorem div_start {x y a b : Int} (h : a = x ∧ b = y) (hx : 0 ≤ x) (hy : 0 ≤ y) : 0 ≤ a ∧ 0 ≤ b ∧ Nat.gcd a.toNat b.toNat = Nat.gcd x.toNat y.toNat := by
  obtain ⟨rfl, rfl⟩ := h; exact ⟨hx, hy, rfl⟩
set_option maxRecDepth 100000 in
set_option maxHeartbeats 8000000 in
theorem div_raw (prog p : Program) (loose : List Str) (w : World) (mean : ExcName → Option Value) (mg mb : Str → Option Value) (dp un : Nat) (gd : Option (List Code)) (cn : Str) (cs : Scope) (a : Addr) (ccd : Value) (cl : List (Str × Addr)) (outer : List Env) (A₀ : Around) (base h₀ : Heap) (L : Addr) (m : Str → Option Value) (s : Shared) (Q E : Value → Shared → Prop)
    (x y : Int) (t1 t2 : Tok) (news : List (Addr × Obj))
    (B : Below A₀ base outer h₀) (F : Fr h₀ L s.heap m) (X : (hd.heap_1 w.params).In h₀) (N : News h₀ L s.heap news) (T : Top p loose mean mg mb h₀) (hk : cs.kind = .function)
    (hdp : dp + 1 < recursionLimit) (hun : un + 8 < cLine)
    (hx0 : 0 ≤ x) (hx1 : x < 1000) (hy0 : 0 ≤ y) (hy1 : y < 1000)
    (hret : ∀ (g : Nat) (t : Tok) (h' : Heap) (tk' : Nat), Fr h₀ L h' m → News h₀ L h' news → g = Nat.gcd x.toNat y.toNat → (1 ≤ y → 1 ≤ g ∧ (g : Int) ≤ y) → Q (.int g t) { s with heap := h', toks := tk' }) :
    Hint PySem.Challenge.rw_tg0038_01 hd.heap_1 (wpAny (model prog w) (ktrTop dp un gd cn cs L a ccd cl outer) (call (.ref 342) [.int x t1, .int y t2]) Q E s) := by
  w_top off
  k_fill
  unfold Hint
  refine wpAny_call ?_
  k_dflt ktr_enter
  k_with "exec While Compare cons nil" => k_while (fun _ p q => 0 ≤ p ∧ 0 ≤ q ∧ p < 1000 ∧ q < 1000 ∧ Nat.gcd p.toNat q.toNat = Nat.gcd x.toNat y.toNat) (fun _ _ q => q.toNat) "one" "other"
  k_with "state" => first | exact ⟨hx0, hy0, hx1, hy1, rfl⟩ | exact ⟨by omega, (gcd_turn (by omega) (by omega)).1, by omega, Int.lt_trans (gcd_turn (by omega) (by omega)).2.1 (by omega), (gcd_turn (by omega) (by omega)).2.2.trans (by assumption)⟩
  k_with "measure" => exact gcd_less (by omega) (by omega)
  k_steps
  rename (Nat.gcd _ _ = Nat.gcd x.toNat y.toNat) => hG
  rw [div_end (by assumption) (by omega) hG]
  exact hret _ _ _ _ (by k_asm) (by k_asm) rfl (gcd_le y)
theorem div_use {prog p : Program} {loose : List Str} {w : World} {mean : ExcName → Option Value} {mg mb : Str → Option Value} {dp un : Nat} {gd : Option (List Code)} {cn : Str} {cs : Scope} {a : Addr} {ccd : Value} {cl : List (Str × Addr)} {outer : List Env} {A₀ : Around} {base h₀ : Heap} {L : Addr} {m : Str → Option Value} {s : Shared} {Q E : Value → Shared → Prop}
    {x y : Int} {t1 t2 : Tok} {news : List (Addr × Obj)}
    (B : Below A₀ base outer h₀) (F : Fr h₀ L s.heap m) (X : (hd.heap_1 w.params).In h₀) (N : News h₀ L s.heap news) (T : Top p loose mean mg mb h₀) (hk : cs.kind = .function)
    (hdp : dp + 1 < recursionLimit) (hun : un + 8 < cLine)
    (hx0 : 0 ≤ x) (hx1 : x < 1000) (hy0 : 0 ≤ y) (hy1 : y < 1000)
    (hret : ∀ (g : Nat) (t : Tok) (h' : Heap) (tk' : Nat), Fr h₀ L h' m → News h₀ L h' news → g = Nat.gcd x.toNat y.toNat → (1 ≤ y → 1 ≤ g ∧ (g : Int) ≤ y) → Q (.int g t) { s with heap := h', toks := tk' }) :
    wpAny (model prog w) (ktrTop dp un gd cn cs L a ccd cl outer) (call (.ref 342) [.int x t1, .int y t2]) Q E s :=
  Hint.out (div_raw prog p loose w mean mg mb dp un gd cn cs a ccd cl outer A₀ base h₀ L m s Q E x y t1 t2 news B F X N T hk hdp hun hx0 hx1 hy0 hy1 hret)
theorem rows7 : True := by
  k_with_none
  k_with "k_all" => (first | assumption | exact lt_all (by assumption) | exact off_all (by assumption) | ((repeat' (with_reducible rename _ ∧ _ => hc9; cases hc9)); first | exact lt_all (by assumption) | exact lt_all1 (by assumption) | exact lt_all2 (by assumption) | exact off_all (by assumption)) | (refine List.forall_mem_append.mpr (And.intro ?_ ?_) <;> k_all))
  k_with "ktr_enter" => (first   | (refine' code_def ?k1 ?k2 ?k3 ?k4 ?k5 ?kA ?kF ?kK ?k6 ?k7 ?k8 ?k9 ?kB ?_ ?c2 ?c3 ?c4 ?c5; (case kA => exact rfl); (case kF => exact rfl); (case kK => first | exact rfl | assumption); (case k1 => k_asm); (case k2 => k_asm); (case k3 => k_asm); (case k4 => k_asm); (case k5 => k_asm); (case k6 => k_is); (case k7 => k_is); (case k8 => ktr_room); (case k9 => first | exact BindsTo.of_eq rfl | exact binds_K (by k_in) rfl (by k_is) rfl rfl rfl); (case c5 => decide); (case kB => exact locs rfl); (case c2 => exact rfl); (case c3 => exact rfl); (case c4 => exact rfl); k_whole; intro g' L' h' FG' F' N' B' X' T'; (try dsimp only); (try k_lift B'); (try k_fold))   | (refine' code_defC ?k1 ?k2 ?k3 ?k4 ?k5 ?kA ?kF ?kK ?k6 ?k7 ?k8 ?k9 ?kB ?kD ?_ ?c2 ?c3 ?c4; (case kA => exact rfl); (case kF => exact rfl); (case kK => first | exact rfl | assumption); (case k1 => k_asm); (case k2 => k_asm); (case k3 => k_asm); (case k4 => k_asm); (case k5 => k_asm); (case k6 => k_is); (case k7 => k_is); (case k8 => ktr_room); (case k9 => first | exact BindsTo.of_eq rfl | exact binds_K (by k_in) rfl (by k_is) rfl rfl rfl); (case kB => exact rfl); (case kD => decide +kernel); (case c2 => exact rfl); (case c3 => exact rfl); (case c4 => exact rfl); k_whole; intro g' L' h' tk' cells' FG' F' N' Y' B' X' T' l1; (try k_lt l1); k_cells Y'; (try simp only [List.cons_append, List.nil_append] at N'); (try dsimp only); (try k_lift B'); (try k_fold)))
  k_with "k_room" => (ktr_room)
  k_with "units_room" => (ktr_units)
  k_with "k_enter" => (((fail_if_success k_inElt); ktr_enter))
  k_with "call ref" => ((k_here; (with_reducible show wpAny _ _ (call (Value.ref 342) _ _) _ _ _); k_dflt (refine' div_use ?k1 ?k2 ?k3 ?k4 ?k5 ?kK ?kd ?ku ?p0 ?p1 ?p2 ?p3 ?_; (case k1 => k_asm); (case k2 => k_asm); (case k3 => k_asm); (case k4 => k_asm); (case k5 => k_asm); (case kK => first | exact rfl | assumption); (case kd => ktr_room); (case ku => ktr_units); (case p0 => omega); (case p1 => omega); (case p2 => omega); (case p3 => omega); k_whole); intro gc' t' h' tk' F' N' hg' hgl'; (have hgl' := hgl' (by omega)); (try dsimp only); (try k_fold)))
  k_with "pyIter ref" => ((k_here; (with_reducible show wpAny _ _ (pyIter (Value.ref _)) (fun it s₂ => LoopAtV _ _ _ _ _ _ _ _ _ it s₂) _ _); k_dflt (refine' for_range ["both", "step", "near"] ?h1 ?h2 ?h3 ?h4 ?h5 ?h6 ?_ ?_; (case h1 => rfl); (case h2 => assumption); (case h3 => exact small_one (by omega) (by omega) (by omega) (by omega)); (case h4 => exact rangeSize_nat _ _); (case h5 => k_asm); (case h6 => k_asm)); intro k' t' u' h' tk' own' hlo' hhi' hoff' F' N'; rotate_left; intro u' h' tk' F' N'; rotate_left; (all_goals (try dsimp only)); (all_goals (try k_fold))))
  k_with "InvEndN" => ((k_dflt (refine' loop_end ?h1 ?h2 ?h3 ?h4 ?h5 ?h6; (case h1 => assumption); (case h2 => assumption); (case h3 => kcf_all); (case h4 => kcf_all); (case h5 => rfl); (case h6 => ksw_same))))
  trivial
set_option maxRecDepth 100000 in
set_option maxHeartbeats 8000000 in
theorem two_raw (prog p : Program) (loose : List Str) (w : World) (mean : ExcName → Option Value) (mg mb : Str → Option Value) (dp un : Nat) (gd : Option (List Code)) (cn : Str) (cs : Scope) (a : Addr) (ccd : Value) (cl : List (Str × Addr)) (outer : List Env) (A₀ : Around) (base h₀ : Heap) (L : Addr) (m : Str → Option Value) (s : Shared) (Q E : Value → Shared → Prop)
    (lt r0 r1 r2 : Addr) (nt n0 n1 n2 : Nat) (v0 v1 v2 : List Value) (i0 i1 i2 : List Int) (ks : List Int) (win place most : Int) (rest : List (Addr × Obj))
    (B : Below A₀ base outer h₀) (F : Fr h₀ L s.heap m) (X : (hd.heap_1 w.params).In h₀) (N : News h₀ L s.heap ((lt, listOf #[.ref r0, .ref r1, .ref r2] nt) :: (r0, listOf v0.toArray n0) :: (r1, listOf v1.toArray n1) :: (r2, listOf v2.toArray n2) :: rest)) (T : Top p loose mean mg mb h₀) (hk : cs.kind = .function)
    (hdp : dp + 2 < recursionLimit) (hun : un + 16 < cLine)
    (hi0 : IntsAre v0 i0) (hi1 : IntsAre v1 i1) (hi2 : IntsAre v2 i2) (hp0 : 0 ≤ place) (hp1 : place < 900)
    (hR0 : IsRow ks win place most i0) (hR1 : IsRow ks win place most i1) (hR2 : IsRow ks win place most i2)
    (hret : ∀ (h' : Heap) (tk' : Nat), Fr h₀ L h' m → News h₀ L h' ((lt, listOf #[.ref r0, .ref r1, .ref r2] nt) :: (r0, listOf v0.toArray n0) :: (r1, listOf v1.toArray n1) :: (r2, listOf v2.toArray n2) :: rest) → Q (.bool true) { s with heap := h', toks := tk' }) :
    Hint PySem.Challenge.rw_tg0038_01 hd.heap_1 (wpAny (model prog w) (ktrTop dp un gd cn cs L a ccd cl outer) (call (.ref 349) [.ref lt]) Q E s) := by
  have hl0 := hR0.len
  have hl1 := hR1.len
  have hl2 := hR2.len
  w_top off
  k_fill
  unfold Hint
  refine wpAny_call ?_
  k_dflt ktr_enter
  k_steps
  · exfalso
    rename (_ ≠ _) => hne
    rename (_ - _ ≤ ite _ _ _) => hge
    rename (_ = Nat.gcd _ _) => hg
    exact hne (two_law' hR0 hR1 hR2 hp0 (by assumption) (by omega) (by omega) hg hge)
  · exact hret _ _ (by k_asm) (by k_asm)
theorem two_use {prog p : Program} {loose : List Str} {w : World} {mean : ExcName → Option Value} {mg mb : Str → Option Value} {dp un : Nat} {gd : Option (List Code)} {cn : Str} {cs : Scope} {a : Addr} {ccd : Value} {cl : List (Str × Addr)} {outer : List Env} {A₀ : Around} {base h₀ : Heap} {L : Addr} {m : Str → Option Value} {s : Shared} {Q E : Value → Shared → Prop}
    {lt r0 r1 r2 : Addr} {nt n0 n1 n2 : Nat} {v0 v1 v2 : List Value} {i0 i1 i2 : List Int} {ks : List Int} {win place most : Int} {news : List (Addr × Obj)}
    (B : Below A₀ base outer h₀) (F : Fr h₀ L s.heap m) (X : (hd.heap_1 w.params).In h₀) (N : News h₀ L s.heap news) (T : Top p loose mean mg mb h₀) (hk : cs.kind = .function)
    (hdp : dp + 2 < recursionLimit) (hun : un + 16 < cLine)
    (m0 : (lt, listOf #[.ref r0, .ref r1, .ref r2] nt) ∈ news) (m1 : (r0, listOf v0.toArray n0) ∈ news) (m2 : (r1, listOf v1.toArray n1) ∈ news) (m3 : (r2, listOf v2.toArray n2) ∈ news)
    (hi0 : IntsAre v0 i0) (hi1 : IntsAre v1 i1) (hi2 : IntsAre v2 i2) (hp0 : 0 ≤ place) (hp1 : place < 900)
    (hR0 : IsRow ks win place most i0) (hR1 : IsRow ks win place most i1) (hR2 : IsRow ks win place most i2)
    (hret : ∀ (h' : Heap) (tk' : Nat), Fr h₀ L h' m → News h₀ L h' news → Q (.bool true) { s with heap := h', toks := tk' }) :
    wpAny (model prog w) (ktrTop dp un gd cn cs L a ccd cl outer) (call (.ref 349) [.ref lt]) Q E s := by
  refine Hint.out (two_raw prog p loose w mean mg mb dp un gd cn cs a ccd cl outer A₀ base h₀ L m s Q E lt r0 r1 r2 nt n0 n1 n2 v0 v1 v2 i0 i1 i2 ks win place most news B F X (fun q hq => ?_) T hk hdp hun hi0 hi1 hi2 hp0 hp1 hR0 hR1 hR2 ?_)
  · rcases List.mem_cons.mp hq with rfl | hq
    · exact N _ m0
    · rcases List.mem_cons.mp hq with rfl | hq
      · exact N _ m1
      · rcases List.mem_cons.mp hq with rfl | hq
        · exact N _ m2
        · rcases List.mem_cons.mp hq with rfl | hq
          · exact N _ m3
          · exact N _ hq
  · exact fun h' tk' F' N' => hret h' tk' F' fun q hq => N' q (.tail _ (.tail _ (.tail _ (.tail _ hq))))
theorem rows8 : True := by
  k_with_none
  k_with "k_all" => (first | assumption | exact lt_all (by assumption) | exact off_all (by assumption) | ((repeat' (with_reducible rename _ ∧ _ => hc9; cases hc9)); first | exact lt_all (by assumption) | exact lt_all1 (by assumption) | exact lt_all2 (by assumption) | exact off_all (by assumption)) | (refine List.forall_mem_append.mpr (And.intro ?_ ?_) <;> k_all))
  k_with "ktr_enter" => (first   | (refine' code_def ?k1 ?k2 ?k3 ?k4 ?k5 ?kA ?kF ?kK ?k6 ?k7 ?k8 ?k9 ?kB ?_ ?c2 ?c3 ?c4 ?c5; (case kA => exact rfl); (case kF => exact rfl); (case kK => first | exact rfl | assumption); (case k1 => k_asm); (case k2 => k_asm); (case k3 => k_asm); (case k4 => k_asm); (case k5 => k_asm); (case k6 => k_is); (case k7 => k_is); (case k8 => ktr_room); (case k9 => first | exact BindsTo.of_eq rfl | exact binds_K (by k_in) rfl (by k_is) rfl rfl rfl); (case c5 => decide); (case kB => exact locs rfl); (case c2 => exact rfl); (case c3 => exact rfl); (case c4 => exact rfl); k_whole; intro g' L' h' FG' F' N' B' X' T'; (try dsimp only); (try k_lift B'); (try k_fold))   | (refine' code_defC ?k1 ?k2 ?k3 ?k4 ?k5 ?kA ?kF ?kK ?k6 ?k7 ?k8 ?k9 ?kB ?kD ?_ ?c2 ?c3 ?c4; (case kA => exact rfl); (case kF => exact rfl); (case kK => first | exact rfl | assumption); (case k1 => k_asm); (case k2 => k_asm); (case k3 => k_asm); (case k4 => k_asm); (case k5 => k_asm); (case k6 => k_is); (case k7 => k_is); (case k8 => ktr_room); (case k9 => first | exact BindsTo.of_eq rfl | exact binds_K (by k_in) rfl (by k_is) rfl rfl rfl); (case kB => exact rfl); (case kD => decide +kernel); (case c2 => exact rfl); (case c3 => exact rfl); (case c4 => exact rfl); k_whole; intro g' L' h' tk' cells' FG' F' N' Y' B' X' T' l1; (try k_lt l1); k_cells Y'; (try simp only [List.cons_append, List.nil_append] at N'); (try dsimp only); (try k_lift B'); (try k_fold)))
  k_with "k_room" => (ktr_room)
  k_with "units_room" => (ktr_units)
  k_with "k_enter" => (((fail_if_success k_inElt); ktr_enter))
  k_with "k_is" => (with_reducible assumption)
  k_with "k_get" => (with_reducible assumption)
  k_with "call ref" => ((k_here; (with_reducible show wpAny _ _ (call (Value.ref 166) _ _) _ _ _); k_dflt (refine' repeat_use ?k1 ?k2 ?k3 ?k4 ?k5 ?kK ?kd ?ku ?hx ?hdx ?hb ?e1 ?e2 ?p0 ?p1 ?p2 ?p3 ?_; (case k1 => k_asm); (case k2 => k_asm); (case k3 => k_asm); (case k4 => k_asm); (case k5 => k_asm); (case kK => first | exact rfl | assumption); (case kd => ktr_room); (case ku => ktr_units); (case hx => k_mem); (case hdx => k_mem); (case hb => assumption); (case e1 => assumption); (case e2 => assumption); (case p0 => omega); (case p1 => omega); (case p2 => omega); (case p3 => omega); k_whole); intro c' t' h' tk' F' N' hRp'; (try dsimp only); (try k_fold)))
  k_with "pyIter ref" => ((k_here; (with_reducible show wpAny _ _ (pyIter (Value.ref _)) (fun it s₂ => LoopAtV _ _ _ _ _ _ _ _ _ it s₂) _ _); k_dflt (refine' for_range ["back", "reach", "times"] ?h1 ?h2 ?h3 ?h4 ?h5 ?h6 ?_ ?_; (case h1 => rfl); (case h2 => assumption); (case h3 => first | exact fd_small1 (by omega) (by omega) (by omega) | exact fd_small (by omega) (by omega) (by omega)); (case h4 => exact rangeSize_nat _ _); (case h5 => k_asm); (case h6 => k_asm)); intro k' t' u' h' tk' own' hlo' hhi' hoff' F' N'; (try (have hml' := times_fact hlo' hhi' (by omega))); (try (have hhf' := half_fact hhi' (by omega))); rotate_left; intro u' h' tk' F' N'; rotate_left; (all_goals (try dsimp only)); (all_goals (try k_fold))))
  k_with "InvEndN" => ((k_dflt (refine' loop_end ?h1 ?h2 ?h3 ?h4 ?h5 ?h6; (case h1 => assumption); (case h2 => assumption); (case h3 => kcf_all); (case h4 => kcf_all); (case h5 => rfl); (case h6 => ksw_same))))
  trivial
set_option maxRecDepth 100000 in
set_option maxHeartbeats 8000000 in
theorem times_raw (prog p : Program) (loose : List Str) (w : World) (mean : ExcName → Option Value) (mg mb : Str → Option Value) (dp un : Nat) (gd : Option (List Code)) (cn : Str) (cs : Scope) (a : Addr) (ccd : Value) (cl : List (Str × Addr)) (outer : List Env) (A₀ : Around) (base h₀ : Heap) (L : Addr) (m : Str → Option Value) (s : Shared) (Q E : Value → Shared → Prop)
    (x C dx sh r : Addr) (es : List DictEntry) (n nsh nr : Nat) (bs : Array UInt8) (ks : List Int) (tb tw t1 t2 t3 : Tok) (v : List Value) (i : List Int) (win place most : Int) (rest : List (Addr × Obj))
    (B : Below A₀ base outer h₀) (F : Fr h₀ L s.heap m) (X : (hd.heap_1 w.params).In h₀) (N : News h₀ L s.heap ((x, instObj C dx) :: (dx, dictOf es n) :: (sh, listOf #[.int win t1, .int most t2] nsh) :: (r, listOf v.toArray nr) :: rest)) (T : Top p loose mean mg mb h₀) (hk : cs.kind = .function)
    (hdp : dp + 4 < recursionLimit) (hun : un + 200 < cLine)
    (hbs : KBw.bInts bs = ks) (hC : ClsOk (hd.heap_1 w.params) C) (hO : ObjOk es bs tb win tw)
    (hlen : ks.length ≤ 900) (hp0 : 0 ≤ place) (hp1 : place ≤ ks.length) (hw0 : 0 ≤ win) (hw1 : win < 900) (hm0 : 0 ≤ most) (hm1 : most < 900)
    (hi : IntsAre v i) (hR : IsRow ks win place most i)
    (hret : ∀ (h' : Heap) (tk' : Nat), Fr h₀ L h' m → News h₀ L h' ((x, instObj C dx) :: (dx, dictOf es n) :: (sh, listOf #[.int win t1, .int most t2] nsh) :: (r, listOf v.toArray nr) :: rest) → Q (.bool true) { s with heap := h', toks := tk' }) :
    Hint PySem.Challenge.rw_tg0038_01 hd.heap_1 (wpAny (model prog w) (ktrTop dp un gd cn cs L a ccd cl outer) (call (.ref 356) [.ref x, .int place t3, .ref sh, .ref r]) Q E s) := by
  have hl := hR.len
  have q1 : findIn (hd.heap_1 w.params) (.ref C) (Str.ofString "repeat") = some (some (.ref 166)) := hC.f6
  have q2 : plainGet (hd.heap_1 w.params) C (Str.ofString "repeat") = true := hC.p6
  have q3 : getL (Str.ofString "repeat") es = some none := hO.g6
  w_top off
  k_fill
  unfold Hint
  refine wpAny_call ?_
  k_dflt ktr_enter
  k_steps
  all_goals first
    | exact hret _ _ (by k_asm) (by k_asm)
    | (exfalso; (rename (¬ (_ = _)) => hne); (rename (_ ∧ _ ∧ _ ≤ ite _ _ _ ∧ _) => hml); (rename (IsR _ _ _ _ _ _) => hRp); (have hmm := le_min hml.2.2.1); exact hne (times_law hR hp0 hp1 hm0 (by assumption) (by assumption) hmm.1 hmm.2 hRp (by assumption)))
    | (exfalso; (rename (_ ≠ _) => hne); (rename (_ ∧ _ ∧ _ ≤ ite _ _ _ ∧ _) => hml); (rename (IsR _ _ _ _ _ _) => hRp); (have hmm := le_min hml.2.2.1); exact hne (times_law hR hp0 hp1 hm0 (by assumption) (by assumption) hmm.1 hmm.2 hRp (by assumption)))
    | (exfalso; (rename (decide (_ = _) = false) => hq9); (have hne := of_decide_eq_false hq9); (rename (_ ∧ _ ∧ _ ≤ ite _ _ _ ∧ _) => hml); (rename (IsR _ _ _ _ _ _) => hRp); (have hmm := le_min hml.2.2.1); exact hne (times_law hR hp0 hp1 hm0 (by assumption) (by assumption) hmm.1 hmm.2 hRp (by assumption)))
    | (exfalso; (rename ((_ == _) = false) => hq9); (have hne := ne_of_beq_false hq9); (rename (_ ∧ _ ∧ _ ≤ ite _ _ _ ∧ _) => hml); (rename (IsR _ _ _ _ _ _) => hRp); (have hmm := le_min hml.2.2.1); exact hne (times_law hR hp0 hp1 hm0 (by assumption) (by assumption) hmm.1 hmm.2 hRp (by assumption)))
theorem times_use {prog p : Program} {loose : List Str} {w : World} {mean : ExcName → Option Value} {mg mb : Str → Option Value} {dp un : Nat} {gd : Option (List Code)} {cn : Str} {cs : Scope} {a : Addr} {ccd : Value} {cl : List (Str × Addr)} {outer : List Env} {A₀ : Around} {base h₀ : Heap} {L : Addr} {m : Str → Option Value} {s : Shared} {Q E : Value → Shared → Prop}
    {x C dx sh r : Addr} {es : List DictEntry} {n nsh nr : Nat} {bs : Array UInt8} {ks : List Int} {tb tw t1 t2 t3 : Tok} {v : List Value} {i : List Int} {win place most : Int} {news : List (Addr × Obj)}
    (B : Below A₀ base outer h₀) (F : Fr h₀ L s.heap m) (X : (hd.heap_1 w.params).In h₀) (N : News h₀ L s.heap news) (T : Top p loose mean mg mb h₀) (hk : cs.kind = .function)
    (hdp : dp + 4 < recursionLimit) (hun : un + 200 < cLine)
    (m0 : (x, instObj C dx) ∈ news) (m1 : (dx, dictOf es n) ∈ news) (m2 : (sh, listOf #[.int win t1, .int most t2] nsh) ∈ news) (m3 : (r, listOf v.toArray nr) ∈ news)
    (hbs : KBw.bInts bs = ks) (hC : ClsOk (hd.heap_1 w.params) C) (hO : ObjOk es bs tb win tw)
    (hlen : ks.length ≤ 900) (hp0 : 0 ≤ place) (hp1 : place ≤ ks.length) (hw0 : 0 ≤ win) (hw1 : win < 900) (hm0 : 0 ≤ most) (hm1 : most < 900)
    (hi : IntsAre v i) (hR : IsRow ks win place most i)
    (hret : ∀ (h' : Heap) (tk' : Nat), Fr h₀ L h' m → News h₀ L h' news → Q (.bool true) { s with heap := h', toks := tk' }) :
    wpAny (model prog w) (ktrTop dp un gd cn cs L a ccd cl outer) (call (.ref 356) [.ref x, .int place t3, .ref sh, .ref r]) Q E s := by
  refine Hint.out (times_raw prog p loose w mean mg mb dp un gd cn cs a ccd cl outer A₀ base h₀ L m s Q E x C dx sh r es n nsh nr bs ks tb tw t1 t2 t3 v i win place most news B F X (fun q hq => ?_) T hk hdp hun hbs hC hO hlen hp0 hp1 hw0 hw1 hm0 hm1 hi hR ?_)
  · rcases List.mem_cons.mp hq with rfl | hq
    · exact N _ m0
    · rcases List.mem_cons.mp hq with rfl | hq
      · exact N _ m1
      · rcases List.mem_cons.mp hq with rfl | hq
        · exact N _ m2
        · rcases List.mem_cons.mp hq with rfl | hq
          · exact N _ m3
          · exact N _ hq
  · exact fun h' tk' F' N' => hret h' tk' F' fun q hq => N' q (.tail _ (.tail _ (.tail _ (.tail _ hq))))
theorem rows9 : True := by
  k_with_none
  k_with "k_all" => (first | assumption | exact lt_all (by assumption) | exact off_all (by assumption) | ((repeat' (with_reducible rename _ ∧ _ => hc9; cases hc9)); first | exact lt_all (by assumption) | exact lt_all1 (by assumption) | exact lt_all2 (by assumption) | exact off_all (by assumption)) | (refine List.forall_mem_append.mpr (And.intro ?_ ?_) <;> k_all))
  k_with "ktr_enter" => (first   | (refine' code_def ?k1 ?k2 ?k3 ?k4 ?k5 ?kA ?kF ?kK ?k6 ?k7 ?k8 ?k9 ?kB ?_ ?c2 ?c3 ?c4 ?c5; (case kA => exact rfl); (case kF => exact rfl); (case kK => first | exact rfl | assumption); (case k1 => k_asm); (case k2 => k_asm); (case k3 => k_asm); (case k4 => k_asm); (case k5 => k_asm); (case k6 => k_is); (case k7 => k_is); (case k8 => ktr_room); (case k9 => first | exact BindsTo.of_eq rfl | exact binds_K (by k_in) rfl (by k_is) rfl rfl rfl); (case c5 => decide); (case kB => exact locs rfl); (case c2 => exact rfl); (case c3 => exact rfl); (case c4 => exact rfl); k_whole; intro g' L' h' FG' F' N' B' X' T'; (try dsimp only); (try k_lift B'); (try k_fold))   | (refine' code_defC ?k1 ?k2 ?k3 ?k4 ?k5 ?kA ?kF ?kK ?k6 ?k7 ?k8 ?k9 ?kB ?kD ?_ ?c2 ?c3 ?c4; (case kA => exact rfl); (case kF => exact rfl); (case kK => first | exact rfl | assumption); (case k1 => k_asm); (case k2 => k_asm); (case k3 => k_asm); (case k4 => k_asm); (case k5 => k_asm); (case k6 => k_is); (case k7 => k_is); (case k8 => ktr_room); (case k9 => first | exact BindsTo.of_eq rfl | exact binds_K (by k_in) rfl (by k_is) rfl rfl rfl); (case kB => exact rfl); (case kD => decide +kernel); (case c2 => exact rfl); (case c3 => exact rfl); (case c4 => exact rfl); k_whole; intro g' L' h' tk' cells' FG' F' N' Y' B' X' T' l1; (try k_lt l1); k_cells Y'; (try simp only [List.cons_append, List.nil_append] at N'); (try dsimp only); (try k_lift B'); (try k_fold)))
  k_with "k_room" => (ktr_room)
  k_with "units_room" => (ktr_units)
  k_with "k_enter" => (((fail_if_success k_inElt); ktr_enter))
  k_with "k_is" => (with_reducible assumption)
  k_with "k_get" => (with_reducible assumption)
  k_with "call ref" => ((k_here; (with_reducible show wpAny _ _ (call (Value.ref 342) _ _) _ _ _); k_dflt (refine' div_use ?k1 ?k2 ?k3 ?k4 ?k5 ?kK ?kd ?ku ?p0 ?p1 ?p2 ?p3 ?_; (case k1 => k_asm); (case k2 => k_asm); (case k3 => k_asm); (case k4 => k_asm); (case k5 => k_asm); (case kK => first | exact rfl | assumption); (case kd => ktr_room); (case ku => ktr_units); (case p0 => omega); (case p1 => omega); (case p2 => omega); (case p3 => omega); k_whole); intro gc' t' h' tk' F' N' hg' hgl'; (have hgl' := hgl' (by omega)); (try dsimp only); (try k_fold)))
  k_with "call ref" => ((k_here; (with_reducible show wpAny _ _ (call (Value.ref 166) _ _) _ _ _); k_dflt (refine' repeat_use ?k1 ?k2 ?k3 ?k4 ?k5 ?kK ?kd ?ku ?hx ?hdx ?hb ?e1 ?e2 ?p0 ?p1 ?p2 ?p3 ?_; (case k1 => k_asm); (case k2 => k_asm); (case k3 => k_asm); (case k4 => k_asm); (case k5 => k_asm); (case kK => first | exact rfl | assumption); (case kd => ktr_room); (case ku => ktr_units); (case hx => k_mem); (case hdx => k_mem); (case hb => assumption); (case e1 => assumption); (case e2 => assumption); (case p0 => omega); (case p1 => omega); (case p2 => omega); (case p3 => omega); k_whole); intro c' t' h' tk' F' N' hRp'; (try dsimp only); (try k_fold)))
  k_with "exec Assign cons ListComp" => ((k_here; k_dflt (refine LCt.Assign_ListComp_T (F₀ := by k_asm) (by rfl) (by with_unfolding_all rfl) (by with_unfolding_all rfl) (by decide) (by rfl) (by decide) (by rfl) (by rfl) (by rfl) ?_)))
  k_with "CompSrcT" => ((k_here; k_dflt (refine LCt.CompSrcT.range (by rfl) (by k_asm) (by k_asm) (by assumption) (by exact small_one (by omega) (by omega) (by omega) (by omega)) (by exact rangeSize_nat _ _) (by rw [PySem.sizeLine_eq]; omega) ?_); intro g'; (refine' per_restK (by assumption) ?_ ?_); intro k' t' ys' I' oI' C' oC' D' m' h' tk' E' hlo' hhi' hC' hx' F' N' off' ne'; (try simp only [LCg.Off3, and_true] at off'); rotate_left; intro ys' ns' hy' hmm' hhd'; rotate_left; (all_goals (try k_fold))))
  k_with "CompEnd" => ((k_dflt (first | (refine' per_el ?kF ?kN ?ksub ?koff ?kS ?_; (case kF => assumption); (case kN => assumption); (case ksub => (try dsimp only); kcf_all); (case koff => first | assumption | ((simp only [LCg.Off3, and_true]); assumption)); (case kS => trivial)) | (refine' no_el ?kF ?kN ?ksub ?koff ?kS ?_; (case kF => assumption); (case kN => assumption); (case ksub => (try dsimp only); kcf_all); (case koff => first | assumption | ((simp only [LCg.Off3, and_true]); assumption)); (case kS => trivial)))))
  k_with "pyIter ref" => ((k_here; (with_reducible show wpAny _ _ (pyIter (Value.ref _)) (fun it s₂ => LoopAtV _ _ _ _ _ _ _ _ _ it s₂) _ _); k_dflt (refine' for_range [] ?h1 ?h2 ?h3 ?h4 ?h5 ?h6 ?_ ?_; (case h1 => rfl); (case h2 => assumption); (case h3 => exact small_one (by omega) (by omega) (by omega) (by omega)); (case h4 => exact rangeSize_nat _ _); (case h5 => k_asm); (case h6 => k_asm)); intro k' t' u' h' tk' own' hlo' hhi' hoff' F' N'; rotate_left; intro u' h' tk' F' N'; rotate_left; (all_goals (try dsimp only)); (all_goals (try k_fold))))
  k_with "InvEndN" => ((k_dflt (refine' loop_end ?h1 ?h2 ?h3 ?h4 ?h5 ?h6; (case h1 => assumption); (case h2 => assumption); (case h3 => kcf_all); (case h4 => kcf_all); (case h5 => rfl); (case h6 => ksw_same))))
  k_with "subscriptTail" => ((k_here; (rename (decide ((_ : List Int) = []) = false) => hq9); (have hpos9 := List.length_pos_iff.mpr (of_decide_eq_false hq9)); clear hq9; (rename (∀ d : Int, d ∈ _ ↔ _) => hmm9); (have hfi9 := first_in hpos9 hmm9); (try dsimp only at hfi9); (obtain ⟨hfa9, hfb9, hfc9⟩ := hfi9); walk_at "subscriptTail"))
  trivial
set_option maxRecDepth 100000 in
set_option maxHeartbeats 8000000 in
theorem whole_raw (prog p : Program) (loose : List Str) (w : World) (mean : ExcName → Option Value) (mg mb : Str → Option Value) (dp un : Nat) (gd : Option (List Code)) (cn : Str) (cs : Scope) (a : Addr) (ccd : Value) (cl : List (Str × Addr)) (outer : List Env) (A₀ : Around) (base h₀ : Heap) (L : Addr) (m : Str → Option Value) (s : Shared) (Q E : Value → Shared → Prop)
    (x C dx : Addr) (es : List DictEntry) (n : Nat) (bs : Array UInt8) (ks : List Int) (tb tw t1 t2 : Tok) (win size : Int) (rest : List (Addr × Obj))
    (B : Below A₀ base outer h₀) (F : Fr h₀ L s.heap m) (X : (hd.heap_1 w.params).In h₀) (N : News h₀ L s.heap ((x, instObj C dx) :: (dx, dictOf es n) :: rest)) (T : Top p loose mean mg mb h₀) (hk : cs.kind = .function)
    (hdp : dp + 4 < recursionLimit) (hun : un + 200 < cLine)
    (hbs : KBw.bInts bs = ks) (hC : ClsOk (hd.heap_1 w.params) C) (hO : ObjOk es bs tb win tw)
    (hlen : ks.length ≤ 900) (hs0 : 1 ≤ size) (hs : size = ks.length) (hw0 : 0 ≤ win) (hw1 : win < 900)
    (hret : ∀ (h' : Heap) (tk' : Nat), Fr h₀ L h' m → News h₀ L h' ((x, instObj C dx) :: (dx, dictOf es n) :: rest) → Q (.bool true) { s with heap := h', toks := tk' }) :
    Hint PySem.Challenge.rw_tg0038_01 hd.heap_1 (wpAny (model prog w) (ktrTop dp un gd cn cs L a ccd cl outer) (call (.ref 361) [.ref x, .int size t1, .int win t2]) Q E s) := by
  have q1 : findIn (hd.heap_1 w.params) (.ref C) (Str.ofString "repeat") = some (some (.ref 166)) := hC.f6
  have q2 : plainGet (hd.heap_1 w.params) C (Str.ofString "repeat") = true := hC.p6
  have q3 : getL (Str.ofString "repeat") es = some none := hO.g6
  w_top off
  k_fill
  unfold Hint
  refine wpAny_call ?_
  k_dflt ktr_enter
  k_steps
  · rename (IsR _ _ _ _ _ _) => hRp
    exact (per_of hRp (by assumption) (by omega) (by omega) hs).mp (by assumption)
  · rename (IsR _ _ _ _ _ _) => hRp
    intro hP
    have := (per_of hRp (by assumption) (by omega) (by omega) hs).mpr hP
    omega
  · exact hret _ _ (by k_asm) (cb_drop (by k_asm) (by kcf_all))
  · exfalso
    rename (∀ d : Int, d ∈ _ ↔ _) => hmm
    rename (∀ d : Int, d ∈ _ → _) => hhd
    rename ((_ != _) = true) => hne
    rename (_ = Nat.gcd _ _) => hg
    exact whole_law hs hmm hhd (by assumption) (by assumption) (by assumption) (by assumption) (by assumption) hne hg (by assumption)
  · exact hret _ _ (by k_asm) (cb_drop (by k_asm) (by kcf_all))
theorem whole_use {prog p : Program} {loose : List Str} {w : World} {mean : ExcName → Option Value} {mg mb : Str → Option Value} {dp un : Nat} {gd : Option (List Code)} {cn : Str} {cs : Scope} {a : Addr} {ccd : Value} {cl : List (Str × Addr)} {outer : List Env} {A₀ : Around} {base h₀ : Heap} {L : Addr} {m : Str → Option Value} {s : Shared} {Q E : Value → Shared → Prop}
    {x C dx : Addr} {es : List DictEntry} {n : Nat} {bs : Array UInt8} {ks : List Int} {tb tw t1 t2 : Tok} {win size : Int} {news : List (Addr × Obj)}
    (B : Below A₀ base outer h₀) (F : Fr h₀ L s.heap m) (X : (hd.heap_1 w.params).In h₀) (N : News h₀ L s.heap news) (T : Top p loose mean mg mb h₀) (hk : cs.kind = .function)
    (hdp : dp + 4 < recursionLimit) (hun : un + 200 < cLine)
    (m0 : (x, instObj C dx) ∈ news) (m1 : (dx, dictOf es n) ∈ news)
    (hbs : KBw.bInts bs = ks) (hC : ClsOk (hd.heap_1 w.params) C) (hO : ObjOk es bs tb win tw)
    (hlen : ks.length ≤ 900) (hs0 : 1 ≤ size) (hs : size = ks.length) (hw0 : 0 ≤ win) (hw1 : win < 900)
    (hret : ∀ (h' : Heap) (tk' : Nat), Fr h₀ L h' m → News h₀ L h' news → Q (.bool true) { s with heap := h', toks := tk' }) :
    wpAny (model prog w) (ktrTop dp un gd cn cs L a ccd cl outer) (call (.ref 361) [.ref x, .int size t1, .int win t2]) Q E s := by
  refine Hint.out (whole_raw prog p loose w mean mg mb dp un gd cn cs a ccd cl outer A₀ base h₀ L m s Q E x C dx es n bs ks tb tw t1 t2 win size news B F X (fun q hq => ?_) T hk hdp hun hbs hC hO hlen hs0 hs hw0 hw1 ?_)
  · rcases List.mem_cons.mp hq with rfl | hq
    · exact N _ m0
    · rcases List.mem_cons.mp hq with rfl | hq
      · exact N _ m1
      · exact N _ hq
  · exact fun h' tk' F' N' => hret h' tk' F' fun q hq => N' q (.tail _ (.tail _ hq))
theorem rows10 : True := by
  k_with_none
  k_with "k_all" => (first | assumption | exact lt_all (by assumption) | exact off_all (by assumption) | ((repeat' (with_reducible rename _ ∧ _ => hc9; cases hc9)); first | exact lt_all (by assumption) | exact lt_all1 (by assumption) | exact lt_all2 (by assumption) | exact off_all (by assumption)) | (refine List.forall_mem_append.mpr (And.intro ?_ ?_) <;> k_all))
  k_with "ktr_enter" => (first   | (refine' code_def ?k1 ?k2 ?k3 ?k4 ?k5 ?kA ?kF ?kK ?k6 ?k7 ?k8 ?k9 ?kB ?_ ?c2 ?c3 ?c4 ?c5; (case kA => exact rfl); (case kF => exact rfl); (case kK => first | exact rfl | assumption); (case k1 => k_asm); (case k2 => k_asm); (case k3 => k_asm); (case k4 => k_asm); (case k5 => k_asm); (case k6 => k_is); (case k7 => k_is); (case k8 => ktr_room); (case k9 => first | exact BindsTo.of_eq rfl | exact binds_K (by k_in) rfl (by k_is) rfl rfl rfl); (case c5 => decide); (case kB => exact locs rfl); (case c2 => exact rfl); (case c3 => exact rfl); (case c4 => exact rfl); k_whole; intro g' L' h' FG' F' N' B' X' T'; (try dsimp only); (try k_lift B'); (try k_fold))   | (refine' code_defC ?k1 ?k2 ?k3 ?k4 ?k5 ?kA ?kF ?kK ?k6 ?k7 ?k8 ?k9 ?kB ?kD ?_ ?c2 ?c3 ?c4; (case kA => exact rfl); (case kF => exact rfl); (case kK => first | exact rfl | assumption); (case k1 => k_asm); (case k2 => k_asm); (case k3 => k_asm); (case k4 => k_asm); (case k5 => k_asm); (case k6 => k_is); (case k7 => k_is); (case k8 => ktr_room); (case k9 => first | exact BindsTo.of_eq rfl | exact binds_K (by k_in) rfl (by k_is) rfl rfl rfl); (case kB => exact rfl); (case kD => decide +kernel); (case c2 => exact rfl); (case c3 => exact rfl); (case c4 => exact rfl); k_whole; intro g' L' h' tk' cells' FG' F' N' Y' B' X' T' l1; (try k_lt l1); k_cells Y'; (try simp only [List.cons_append, List.nil_append] at N'); (try dsimp only); (try k_lift B'); (try k_fold)))
  k_with "k_room" => (ktr_room)
  k_with "units_room" => (ktr_units)
  k_with "k_enter" => (((fail_if_success k_inElt); ktr_enter))
  k_with "pyIter ref" => ((k_here; (with_reducible show wpAny _ _ (pyIter (Value.ref _)) (fun it s₂ => LoopAtV _ _ _ _ _ _ _ _ _ it s₂) _ _); k_dflt (refine' for_grow ["piece", "count"] (PlainP _ _ _ _) ?h1 ?h2 ?h3 ?h4 ?h5 ?h6 ?hi ?hp ?_ ?_; (case h1 => rfl); (case h2 => assumption); (case h3 => exact small_one (by omega) (by omega) (by omega) (by omega)); (case h4 => exact rangeSize_nat _ _); (case h5 => k_asm); (case h6 => exact drop_one (by k_asm)); (case hi => exact .cons _ _ .nil); (case hp => exact plain_zero (by assumption))); intro i' k' t' vs' ns' nn' u' h' tk' own' hki' hin' hI' hP' hoff' F' N'; (have hdm' : DMark k' := ⟨⟩); (have hpl' := plain_len hP'); (have hvl' := IntsAre.length hI'); rotate_left; intro u' vs' ns' nn' h' tk' hI' hP' F' N'; rotate_left; (all_goals (try dsimp only)); (all_goals (try k_fold))))
  k_with "InvEndN" => ((k_dflt (refine' grow_end ?h1 ?h2 ?h3 ?h4 ?h5 ?h6 ?h7 ?_; (case h1 => assumption); (case h2 => assumption); (case h3 => kcf_all); (case h4 => kcf_all); (case h5 => rfl); (case h6 => ksw_same); (case h7 => l_ints))))
  k_with "exec While" => ((k_here; (rename (KBw.bInts _ = List.take _ _) => hkb9); (obtain ⟨pl9, hpl9, hpz9, hln9, hge9⟩ := piece_fact hkb9 (by omega) (by omega) (by omega)); k_dflt (refine' cnt_while (cnt_zero (by assumption) (by assumption)) ?h1 ?h2 ?h3 ?_ ?h5; (case h1 => k_asm); (case h2 => k_asm); (case h3 => exact rfl); (case h5 => passes_own)); (intro c9 tc9 u9 h9 tk9 hCn9 F9 N9); (have hcl9 := hCn9.le); (all_goals (try dsimp only)); (all_goals (try k_fold))))
  k_with "KswEnd" => ((k_dflt (refine' cnt_end ?h1 ?h2 ?h3 ?h4 ?h5 ?_; (case h1 => assumption); (case h2 => assumption); (case h3 => kcf_all); (case h4 => exact rfl); (case h5 => (intro z h1; first | rfl | (simp [h1]; done))))))
  k_with "subscriptTail" => ((k_here; (with_reducible show wpAny _ _ (subscriptTail _ _ (Value.bytes _ _) (Value.int (Int.fmod _ _) _)) _ _ _); (refine KBw.item_K (by assumption) (by omega) (fm_lo _ (by omega)) (idx_fact (by assumption) (by assumption) (by omega)) ?_); intro _ _ kbaLo kbaHi))
  k_with "CntPost" => ((unfold CntPost; dsimp only [KswPost]))
  k_with "call builtin:list.append" => ((k_here; (with_reducible show wpAny _ _ (call (Value.builtin _) [Value.ref _, _]) _ _ _); k_dflt (refine' append_K ?k1 ?k2 ?k3 ?_ ?z; (case k1 => k_asm); (case k2 => k_asm); (case k3 => k_upd); (case z => (rw [List.size_toArray, PySem.sizeLine_eq]; omega)); k_whole); intro h' F' N'; (try simp only [List.push_toArray] at N'); (try k_sweep)))
  trivial
set_option maxRecDepth 100000 in
set_option maxHeartbeats 8000000 in
theorem plain_raw (prog p : Program) (loose : List Str) (w : World) (mean : ExcName → Option Value) (mg mb : Str → Option Value) (dp un : Nat) (gd : Option (List Code)) (cn : Str) (cs : Scope) (a : Addr) (ccd : Value) (cl : List (Str × Addr)) (outer : List Env) (A₀ : Around) (base h₀ : Heap) (L : Addr) (m : Str → Option Value) (s : Shared) (Q E : Value → Shared → Prop)
    (sh : Addr) (nsh : Nat) (bs : Array UInt8) (ks : List Int) (tb t1 t2 t3 : Tok) (win place most : Int) (rest : List (Addr × Obj))
    (B : Below A₀ base outer h₀) (F : Fr h₀ L s.heap m) (X : (hd.heap_1 w.params).In h₀) (N : News h₀ L s.heap ((sh, listOf #[.int win t1, .int most t2] nsh) :: rest)) (T : Top p loose mean mg mb h₀) (hk : cs.kind = .function)
    (hdp : dp + 1 < recursionLimit) (hun : un + 200 < cLine)
    (hbs : KBw.bInts bs = ks)
    (hlen : ks.length ≤ 900) (hp0 : 0 ≤ place) (hp1 : place ≤ ks.length) (hw0 : 0 ≤ win) (hw1 : win < 900) (hm0 : 0 ≤ most) (hm1 : most < 900)
    (hret : ∀ (l : Addr) (vs : List Value) (is : List Int) (nn : Nat) (h' : Heap) (tk' : Nat), Fr h₀ L h' m → News h₀ L h' ((l, listOf vs.toArray nn) :: (sh, listOf #[.int win t1, .int most t2] nsh) :: rest) → LCg.Off1 l ((sh, listOf #[.int win t1, .int most t2] nsh) :: rest) → IntsAre vs is → IsRow ks win place most is → Q (.ref l) { s with heap := h', toks := tk' }) :
    Hint PySem.Challenge.rw_tg0038_01 hd.heap_1 (wpAny (model prog w) (ktrTop dp un gd cn cs L a ccd cl outer) (call (.ref 368) [.bytes bs tb, .int place t3, .ref sh]) Q E s) := by
  have hmk : PMark ks win place most := ⟨⟩
  w_top off
  k_fill
  unfold Hint
  refine wpAny_call ?_
  k_dflt ktr_enter
  k_steps
  · refine cnt_end (by assumption) (by assumption) (by kcf_all) rfl (by intro z h1; simp [h1]) ?_
    rename (_ = List.getD _ _ _) => he
    exact cnt_more (by assumption) hp0 (by omega) (by assumption) (by assumption) (by assumption) he
  · rename (List.getD _ _ _ ≠ _) => hx
    exact plain_step (by assumption) (by assumption) (by assumption) hp0 hp1 hm0 (by assumption) (.inr (.inr hx))
  · exact plain_step (by assumption) (by assumption) (by assumption) hp0 hp1 hm0 (by assumption) (.inr (.inl (by assumption)))
  · exact plain_step (by assumption) (by assumption) (by assumption) hp0 hp1 hm0 (by assumption) (.inl (by assumption))
  · rename (PlainP _ _ _ _ _ _) => hP
    refine' hret _ _ _ _ _ _ ?kF (cb_drop ?kN ?ks) ?ko ?ki ⟨?kl, ?kr⟩
    case kF => k_asm
    case kN => k_asm
    case ki => assumption
    case kr => exact hP.2
    case kl => have := hP.1; omega
    case ks => kcf_all
    case ko => simp only [LCg.Off1]; exact ⟨by k_ne, all_off (by k_all)⟩
theorem plain_use {prog p : Program} {loose : List Str} {w : World} {mean : ExcName → Option Value} {mg mb : Str → Option Value} {dp un : Nat} {gd : Option (List Code)} {cn : Str} {cs : Scope} {a : Addr} {ccd : Value} {cl : List (Str × Addr)} {outer : List Env} {A₀ : Around} {base h₀ : Heap} {L : Addr} {m : Str → Option Value} {s : Shared} {Q E : Value → Shared → Prop}
    {sh : Addr} {nsh : Nat} {bs : Array UInt8} {ks : List Int} {tb t1 t2 t3 : Tok} {win place most : Int} {news : List (Addr × Obj)}
    (B : Below A₀ base outer h₀) (F : Fr h₀ L s.heap m) (X : (hd.heap_1 w.params).In h₀) (N : News h₀ L s.heap news) (T : Top p loose mean mg mb h₀) (hk : cs.kind = .function)
    (hdp : dp + 1 < recursionLimit) (hun : un + 200 < cLine)
    (m0 : (sh, listOf #[.int win t1, .int most t2] nsh) ∈ news)
    (hbs : KBw.bInts bs = ks)
    (hlen : ks.length ≤ 900) (hp0 : 0 ≤ place) (hp1 : place ≤ ks.length) (hw0 : 0 ≤ win) (hw1 : win < 900) (hm0 : 0 ≤ most) (hm1 : most < 900)
    (hret : ∀ (l : Addr) (vs : List Value) (is : List Int) (nn : Nat) (h' : Heap) (tk' : Nat), Fr h₀ L h' m → News h₀ L h' ((l, listOf vs.toArray nn) :: news) → LCg.Off1 l news → IntsAre vs is → IsRow ks win place most is → Q (.ref l) { s with heap := h', toks := tk' }) :
    wpAny (model prog w) (ktrTop dp un gd cn cs L a ccd cl outer) (call (.ref 368) [.bytes bs tb, .int place t3, .ref sh]) Q E s := by
  refine Hint.out (plain_raw prog p loose w mean mg mb dp un gd cn cs a ccd cl outer A₀ base h₀ L m s Q E sh nsh bs ks tb t1 t2 t3 win place most news B F X (fun q hq => ?_) T hk hdp hun hbs hlen hp0 hp1 hw0 hw1 hm0 hm1 ?_)
  · rcases List.mem_cons.mp hq with rfl | hq
    · exact N _ m0
    · exact N _ hq
  · intro l vs is nn h' tk' F' N' off hi hR
    refine hret l vs is nn h' tk' F' (fun q hq => N' q ?_) off.2 hi hR
    rcases List.mem_cons.mp hq with rfl | hq
    · exact .head _
    · exact .tail _ (.tail _ hq)
theorem rows11 : True := by
  k_with_none
  k_with "k_all" => (first | assumption | exact lt_all (by assumption) | exact off_all (by assumption) | ((repeat' (with_reducible rename _ ∧ _ => hc9; cases hc9)); first | exact lt_all (by assumption) | exact lt_all1 (by assumption) | exact lt_all2 (by assumption) | exact off_all (by assumption)) | (refine List.forall_mem_append.mpr (And.intro ?_ ?_) <;> k_all))
  k_with "ktr_enter" => (first   | (refine' code_def ?k1 ?k2 ?k3 ?k4 ?k5 ?kA ?kF ?kK ?k6 ?k7 ?k8 ?k9 ?kB ?_ ?c2 ?c3 ?c4 ?c5; (case kA => exact rfl); (case kF => exact rfl); (case kK => first | exact rfl | assumption); (case k1 => k_asm); (case k2 => k_asm); (case k3 => k_asm); (case k4 => k_asm); (case k5 => k_asm); (case k6 => k_is); (case k7 => k_is); (case k8 => ktr_room); (case k9 => first | exact BindsTo.of_eq rfl | exact binds_K (by k_in) rfl (by k_is) rfl rfl rfl); (case c5 => decide); (case kB => exact locs rfl); (case c2 => exact rfl); (case c3 => exact rfl); (case c4 => exact rfl); k_whole; intro g' L' h' FG' F' N' B' X' T'; (try dsimp only); (try k_lift B'); (try k_fold))   | (refine' code_defC ?k1 ?k2 ?k3 ?k4 ?k5 ?kA ?kF ?kK ?k6 ?k7 ?k8 ?k9 ?kB ?kD ?_ ?c2 ?c3 ?c4; (case kA => exact rfl); (case kF => exact rfl); (case kK => first | exact rfl | assumption); (case k1 => k_asm); (case k2 => k_asm); (case k3 => k_asm); (case k4 => k_asm); (case k5 => k_asm); (case k6 => k_is); (case k7 => k_is); (case k8 => ktr_room); (case k9 => first | exact BindsTo.of_eq rfl | exact binds_K (by k_in) rfl (by k_is) rfl rfl rfl); (case kB => exact rfl); (case kD => decide +kernel); (case c2 => exact rfl); (case c3 => exact rfl); (case c4 => exact rfl); k_whole; intro g' L' h' tk' cells' FG' F' N' Y' B' X' T' l1; (try k_lt l1); k_cells Y'; (try simp only [List.cons_append, List.nil_append] at N'); (try dsimp only); (try k_lift B'); (try k_fold)))
  k_with "k_room" => (ktr_room)
  k_with "units_room" => (ktr_units)
  k_with "k_enter" => (((fail_if_success k_inElt); ktr_enter))
  k_with "call type:bytes" => ((k_here; (with_reducible show wpAny _ _ (call (Value.type "bytes") [Value.bytes _ _]) _ _ _); refine call_bytes_self ?_))
  trivial
set_option maxRecDepth 100000 in
set_option maxHeartbeats 8000000 in
theorem make1_raw (prog p : Program) (loose : List Str) (w : World) (mean : ExcName → Option Value) (mg mb : Str → Option Value) (dp un : Nat) (gd : Option (List Code)) (cn : Str) (cs : Scope) (a : Addr) (ccd : Value) (cl : List (Str × Addr)) (outer : List Env) (A₀ : Around) (base h₀ : Heap) (L : Addr) (m : Str → Option Value) (s : Shared) (Q E : Value → Shared → Prop)
    (bs : Array UInt8) (ks : List Int) (tb t1 t2 t3 : Tok) (least win ch : Int) (rest : List (Addr × Obj))
    (B : Below A₀ base outer h₀) (F : Fr h₀ L s.heap m) (X : (hd.heap_1 w.params).In h₀) (N : News h₀ L s.heap rest) (T : Top p loose mean mg mb h₀) (hk : cs.kind = .function)
    (hdp : dp + 8 < recursionLimit) (hun : un + 200 < cLine)
    (hbs : KBw.bInts bs = ks) (hlen : ks.length ≤ 900) (hl1 : 1 ≤ least) (hl2 : least < 100) (hw1 : 1 ≤ win) (hw2 : win < 900) (hc1 : 1 ≤ ch) (hc2 : ch < 100)
    (hret : ∀ (x dx : Addr) (es : List DictEntry) (n : Nat) (tb' : Tok) (h' : Heap) (tk' : Nat), Fr h₀ L h' m → News h₀ L h' ((x, instObj 226 dx) :: (dx, dictOf es n) :: rest) → dx < x → AllLt dx rest → ObjOk es bs tb' win t2 → Q (.ref x) { s with heap := h', toks := tk' }) :
    Hint PySem.Challenge.rw_tg0038_01 hd.heap_1 (wpAny (model prog w) (ktrTop dp un gd cn cs L a ccd cl outer) (call (.ref 226) [.bytes bs tb, .int least t1, .int win t2, .int ch t3]) Q E s) := by
  w_top off
  k_fill
  unfold Hint
  k_steps
  refine' hret _ _ _ _ tb _ _ ?kF (cb_drop ?kN ?ks) ?kl ?ka ?ko
  case kF => k_asm
  case kN => k_asm
  case ks => kcf_all
  case kl => assumption
  case ka => first | assumption | exact allLt_of (by assumption)
  case ko => exact ⟨by k_get, by k_get, by k_get, by k_get, by k_get, by k_get⟩
theorem make1_use {prog p : Program} {loose : List Str} {w : World} {mean : ExcName → Option Value} {mg mb : Str → Option Value} {dp un : Nat} {gd : Option (List Code)} {cn : Str} {cs : Scope} {a : Addr} {ccd : Value} {cl : List (Str × Addr)} {outer : List Env} {A₀ : Around} {base h₀ : Heap} {L : Addr} {m : Str → Option Value} {s : Shared} {Q E : Value → Shared → Prop}
    {bs : Array UInt8} {ks : List Int} {tb t1 t2 t3 : Tok} {least win ch : Int} {rest : List (Addr × Obj)}
    (B : Below A₀ base outer h₀) (F : Fr h₀ L s.heap m) (X : (hd.heap_1 w.params).In h₀) (N : News h₀ L s.heap rest) (T : Top p loose mean mg mb h₀) (hk : cs.kind = .function)
    (hdp : dp + 8 < recursionLimit) (hun : un + 200 < cLine)
    (hbs : KBw.bInts bs = ks) (hlen : ks.length ≤ 900) (hl1 : 1 ≤ least) (hl2 : least < 100) (hw1 : 1 ≤ win) (hw2 : win < 900) (hc1 : 1 ≤ ch) (hc2 : ch < 100)
    (hret : ∀ (x dx : Addr) (es : List DictEntry) (n : Nat) (tb' : Tok) (h' : Heap) (tk' : Nat), Fr h₀ L h' m → News h₀ L h' ((x, instObj 226 dx) :: (dx, dictOf es n) :: rest) → dx < x → AllLt dx rest → ObjOk es bs tb' win t2 → Q (.ref x) { s with heap := h', toks := tk' }) :
    wpAny (model prog w) (ktrTop dp un gd cn cs L a ccd cl outer) (call (.ref 226) [.bytes bs tb, .int least t1, .int win t2, .int ch t3]) Q E s :=
  Hint.out (make1_raw prog p loose w mean mg mb dp un gd cn cs a ccd cl outer A₀ base h₀ L m s Q E bs ks tb t1 t2 t3 least win ch rest B F X N T hk hdp hun hbs hlen hl1 hl2 hw1 hw2 hc1 hc2 hret)
set_option maxRecDepth 100000 in
set_option maxHeartbeats 8000000 in
theorem make2_raw (prog p : Program) (loose : List Str) (w : World) (mean : ExcName → Option Value) (mg mb : Str → Option Value) (dp un : Nat) (gd : Option (List Code)) (cn : Str) (cs : Scope) (a : Addr) (ccd : Value) (cl : List (Str × Addr)) (outer : List Env) (A₀ : Around) (base h₀ : Heap) (L : Addr) (m : Str → Option Value) (s : Shared) (Q E : Value → Shared → Prop)
    (bs : Array UInt8) (ks : List Int) (tb t1 t2 t3 : Tok) (least win ch : Int) (rest : List (Addr × Obj))
    (B : Below A₀ base outer h₀) (F : Fr h₀ L s.heap m) (X : (hd.heap_1 w.params).In h₀) (N : News h₀ L s.heap rest) (T : Top p loose mean mg mb h₀) (hk : cs.kind = .function)
    (hdp : dp + 8 < recursionLimit) (hun : un + 200 < cLine)
    (hbs : KBw.bInts bs = ks) (hlen : ks.length ≤ 900) (hl1 : 1 ≤ least) (hl2 : least < 100) (hw1 : 1 ≤ win) (hw2 : win < 900) (hc1 : 1 ≤ ch) (hc2 : ch < 100)
    (hret : ∀ (x dx : Addr) (es : List DictEntry) (n : Nat) (tb' : Tok) (h' : Heap) (tk' : Nat), Fr h₀ L h' m → News h₀ L h' ((x, instObj 274 dx) :: (dx, dictOf es n) :: rest) → dx < x → AllLt dx rest → ObjOk es bs tb' win t2 → Q (.ref x) { s with heap := h', toks := tk' }) :
    Hint PySem.Challenge.rw_tg0038_01 hd.heap_1 (wpAny (model prog w) (ktrTop dp un gd cn cs L a ccd cl outer) (call (.ref 274) [.bytes bs tb, .int least t1, .int win t2, .int ch t3]) Q E s) := by
  w_top off
  k_fill
  unfold Hint
  k_steps
  refine' hret _ _ _ _ tb _ _ ?kF (cb_drop ?kN ?ks) ?kl ?ka ?ko
  case kF => k_asm
  case kN => k_asm
  case ks => kcf_all
  case kl => assumption
  case ka => first | assumption | exact allLt_of (by assumption)
  case ko => exact ⟨by k_get, by k_get, by k_get, by k_get, by k_get, by k_get⟩
theorem make2_use {prog p : Program} {loose : List Str} {w : World} {mean : ExcName → Option Value} {mg mb : Str → Option Value} {dp un : Nat} {gd : Option (List Code)} {cn : Str} {cs : Scope} {a : Addr} {ccd : Value} {cl : List (Str × Addr)} {outer : List Env} {A₀ : Around} {base h₀ : Heap} {L : Addr} {m : Str → Option Value} {s : Shared} {Q E : Value → Shared → Prop}
    {bs : Array UInt8} {ks : List Int} {tb t1 t2 t3 : Tok} {least win ch : Int} {rest : List (Addr × Obj)}
    (B : Below A₀ base outer h₀) (F : Fr h₀ L s.heap m) (X : (hd.heap_1 w.params).In h₀) (N : News h₀ L s.heap rest) (T : Top p loose mean mg mb h₀) (hk : cs.kind = .function)
    (hdp : dp + 8 < recursionLimit) (hun : un + 200 < cLine)
    (hbs : KBw.bInts bs = ks) (hlen : ks.length ≤ 900) (hl1 : 1 ≤ least) (hl2 : least < 100) (hw1 : 1 ≤ win) (hw2 : win < 900) (hc1 : 1 ≤ ch) (hc2 : ch < 100)
    (hret : ∀ (x dx : Addr) (es : List DictEntry) (n : Nat) (tb' : Tok) (h' : Heap) (tk' : Nat), Fr h₀ L h' m → News h₀ L h' ((x, instObj 274 dx) :: (dx, dictOf es n) :: rest) → dx < x → AllLt dx rest → ObjOk es bs tb' win t2 → Q (.ref x) { s with heap := h', toks := tk' }) :
    wpAny (model prog w) (ktrTop dp un gd cn cs L a ccd cl outer) (call (.ref 274) [.bytes bs tb, .int least t1, .int win t2, .int ch t3]) Q E s :=
  Hint.out (make2_raw prog p loose w mean mg mb dp un gd cn cs a ccd cl outer A₀ base h₀ L m s Q E bs ks tb t1 t2 t3 least win ch rest B F X N T hk hdp hun hbs hlen hl1 hl2 hw1 hw2 hc1 hc2 hret)
theorem rows12 : True := by
  k_with_none
  k_with "k_all" => (first | assumption | exact lt_all (by assumption) | exact off_all (by assumption) | ((repeat' (with_reducible rename _ ∧ _ => hc9; cases hc9)); first | exact lt_all (by assumption) | exact lt_all1 (by assumption) | exact lt_all2 (by assumption) | exact off_all (by assumption)) | (refine List.forall_mem_append.mpr (And.intro ?_ ?_) <;> k_all))
  k_with "ktr_enter" => (first   | (refine' code_def ?k1 ?k2 ?k3 ?k4 ?k5 ?kA ?kF ?kK ?k6 ?k7 ?k8 ?k9 ?kB ?_ ?c2 ?c3 ?c4 ?c5; (case kA => exact rfl); (case kF => exact rfl); (case kK => first | exact rfl | assumption); (case k1 => k_asm); (case k2 => k_asm); (case k3 => k_asm); (case k4 => k_asm); (case k5 => k_asm); (case k6 => k_is); (case k7 => k_is); (case k8 => ktr_room); (case k9 => first | exact BindsTo.of_eq rfl | exact binds_K (by k_in) rfl (by k_is) rfl rfl rfl); (case c5 => decide); (case kB => exact locs rfl); (case c2 => exact rfl); (case c3 => exact rfl); (case c4 => exact rfl); k_whole; intro g' L' h' FG' F' N' B' X' T'; (try dsimp only); (try k_lift B'); (try k_fold))   | (refine' code_defC ?k1 ?k2 ?k3 ?k4 ?k5 ?kA ?kF ?kK ?k6 ?k7 ?k8 ?k9 ?kB ?kD ?_ ?c2 ?c3 ?c4; (case kA => exact rfl); (case kF => exact rfl); (case kK => first | exact rfl | assumption); (case k1 => k_asm); (case k2 => k_asm); (case k3 => k_asm); (case k4 => k_asm); (case k5 => k_asm); (case k6 => k_is); (case k7 => k_is); (case k8 => ktr_room); (case k9 => first | exact BindsTo.of_eq rfl | exact binds_K (by k_in) rfl (by k_is) rfl rfl rfl); (case kB => exact rfl); (case kD => decide +kernel); (case c2 => exact rfl); (case c3 => exact rfl); (case c4 => exact rfl); k_whole; intro g' L' h' tk' cells' FG' F' N' Y' B' X' T' l1; (try k_lt l1); k_cells Y'; (try simp only [List.cons_append, List.nil_append] at N'); (try dsimp only); (try k_lift B'); (try k_fold)))
  k_with "k_room" => (ktr_room)
  k_with "units_room" => (ktr_units)
  k_with "k_enter" => (((fail_if_success k_inElt); ktr_enter))
  k_with "call type:bytes" => ((k_here; (with_reducible show wpAny _ _ (call (Value.type "bytes") [Value.bytes _ _]) _ _ _); refine call_bytes_self ?_))
  k_with "eval ListComp" => ((k_here; k_dflt (refine ListComp_Tup (F₀ := by k_asm) (by with_unfolding_all rfl) (by decide) (by rfl) (by decide) (by rfl) ?_)))
  k_with "SrcTup" => ((k_here; k_dflt (refine SrcTup.of (by rfl) (by k_asm) (by k_asm) (tupK (l := [_, _]) (by k_in) (by k_is)) (by exact Nat.le_of_ble_eq_true rfl) ?_); intro g'; (refine small_rest (two_ints (by decide) (by decide)) ?_ ?_); intro z' t' ys' I' oI' C' oC' D' m' h' tk' E' hz1' hz2' hC' hx' F' N' off' ne'; (try simp only [LCg.Off3, and_true] at off'); rotate_left; intro ys'; rotate_left; (all_goals (try k_fold))))
  k_with "CompEnd" => ((k_dflt (refine' any_el ?kF ?kN ?ksub ?koff ?kS; (case kF => assumption); (case kN => assumption); (case ksub => (try dsimp only); kcf_all); (case koff => first | assumption | ((simp only [LCg.Off3, and_true]); assumption)); (case kS => trivial))))
  trivial
set_option maxRecDepth 100000 in
set_option maxHeartbeats 8000000 in
theorem make3_raw (prog p : Program) (loose : List Str) (w : World) (mean : ExcName → Option Value) (mg mb : Str → Option Value) (dp un : Nat) (gd : Option (List Code)) (cn : Str) (cs : Scope) (a : Addr) (ccd : Value) (cl : List (Str × Addr)) (outer : List Env) (A₀ : Around) (base h₀ : Heap) (L : Addr) (m : Str → Option Value) (s : Shared) (Q E : Value → Shared → Prop)
    (bs : Array UInt8) (ks : List Int) (tb t2 t3 : Tok) (win ch : Int) (rest : List (Addr × Obj))
    (B : Below A₀ base outer h₀) (F : Fr h₀ L s.heap m) (X : (hd.heap_1 w.params).In h₀) (N : News h₀ L s.heap rest) (T : Top p loose mean mg mb h₀) (hk : cs.kind = .function)
    (hdp : dp + 8 < recursionLimit) (hun : un + 200 < cLine)
    (hbs : KBw.bInts bs = ks) (hlen : ks.length ≤ 900) (hw1 : 1 ≤ win) (hw2 : win < 900) (hc1 : 1 ≤ ch) (hc2 : ch < 100)
    (hret : ∀ (x dx : Addr) (es : List DictEntry) (n : Nat) (tb' : Tok) (h' : Heap) (tk' : Nat), Fr h₀ L h' m → News h₀ L h' ((x, instObj 307 dx) :: (dx, dictOf es n) :: rest) → dx < x → AllLt dx rest → ObjOk es bs tb' win t2 → Q (.ref x) { s with heap := h', toks := tk' }) :
    Hint PySem.Challenge.rw_tg0038_01 hd.heap_1 (wpAny (model prog w) (ktrTop dp un gd cn cs L a ccd cl outer) (call (.ref 307) [.bytes bs tb, .int win t2, .int ch t3]) Q E s) := by
  w_top off
  k_fill
  unfold Hint
  k_steps
  refine' hret _ _ _ _ tb _ _ ?kF (cb_drop ?kN ?ks) ?kl ?ka ?ko
  case kF => k_asm
  case kN => k_asm
  case ks => kcf_all
  case kl => assumption
  case ka => first | assumption | exact allLt_of (by assumption)
  case ko => exact ⟨by k_get, by k_get, by k_get, by k_get, by k_get, by k_get⟩
theorem make3_use {prog p : Program} {loose : List Str} {w : World} {mean : ExcName → Option Value} {mg mb : Str → Option Value} {dp un : Nat} {gd : Option (List Code)} {cn : Str} {cs : Scope} {a : Addr} {ccd : Value} {cl : List (Str × Addr)} {outer : List Env} {A₀ : Around} {base h₀ : Heap} {L : Addr} {m : Str → Option Value} {s : Shared} {Q E : Value → Shared → Prop}
    {bs : Array UInt8} {ks : List Int} {tb t2 t3 : Tok} {win ch : Int} {rest : List (Addr × Obj)}
    (B : Below A₀ base outer h₀) (F : Fr h₀ L s.heap m) (X : (hd.heap_1 w.params).In h₀) (N : News h₀ L s.heap rest) (T : Top p loose mean mg mb h₀) (hk : cs.kind = .function)
    (hdp : dp + 8 < recursionLimit) (hun : un + 200 < cLine)
    (hbs : KBw.bInts bs = ks) (hlen : ks.length ≤ 900) (hw1 : 1 ≤ win) (hw2 : win < 900) (hc1 : 1 ≤ ch) (hc2 : ch < 100)
    (hret : ∀ (x dx : Addr) (es : List DictEntry) (n : Nat) (tb' : Tok) (h' : Heap) (tk' : Nat), Fr h₀ L h' m → News h₀ L h' ((x, instObj 307 dx) :: (dx, dictOf es n) :: rest) → dx < x → AllLt dx rest → ObjOk es bs tb' win t2 → Q (.ref x) { s with heap := h', toks := tk' }) :
    wpAny (model prog w) (ktrTop dp un gd cn cs L a ccd cl outer) (call (.ref 307) [.bytes bs tb, .int win t2, .int ch t3]) Q E s :=
  Hint.out (make3_raw prog p loose w mean mg mb dp un gd cn cs a ccd cl outer A₀ base h₀ L m s Q E bs ks tb t2 t3 win ch rest B F X N T hk hdp hun hbs hlen hw1 hw2 hc1 hc2 hret)
theorem rows13 : True := by
  k_with_none
  k_with "k_all" => (first | assumption | exact lt_all (by assumption) | exact off_all (by assumption) | ((repeat' (with_reducible rename _ ∧ _ => hc9; cases hc9)); first | exact lt_all (by assumption) | exact lt_all1 (by assumption) | exact lt_all2 (by assumption) | exact off_all (by assumption)) | (refine List.forall_mem_append.mpr (And.intro ?_ ?_) <;> k_all))
  k_with "ktr_enter" => (first   | (refine' code_def ?k1 ?k2 ?k3 ?k4 ?k5 ?kA ?kF ?kK ?k6 ?k7 ?k8 ?k9 ?kB ?_ ?c2 ?c3 ?c4 ?c5; (case kA => exact rfl); (case kF => exact rfl); (case kK => first | exact rfl | assumption); (case k1 => k_asm); (case k2 => k_asm); (case k3 => k_asm); (case k4 => k_asm); (case k5 => k_asm); (case k6 => k_is); (case k7 => k_is); (case k8 => ktr_room); (case k9 => first | exact BindsTo.of_eq rfl | exact binds_K (by k_in) rfl (by k_is) rfl rfl rfl); (case c5 => decide); (case kB => exact locs rfl); (case c2 => exact rfl); (case c3 => exact rfl); (case c4 => exact rfl); k_whole; intro g' L' h' FG' F' N' B' X' T'; (try dsimp only); (try k_lift B'); (try k_fold))   | (refine' code_defC ?k1 ?k2 ?k3 ?k4 ?k5 ?kA ?kF ?kK ?k6 ?k7 ?k8 ?k9 ?kB ?kD ?_ ?c2 ?c3 ?c4; (case kA => exact rfl); (case kF => exact rfl); (case kK => first | exact rfl | assumption); (case k1 => k_asm); (case k2 => k_asm); (case k3 => k_asm); (case k4 => k_asm); (case k5 => k_asm); (case k6 => k_is); (case k7 => k_is); (case k8 => ktr_room); (case k9 => first | exact BindsTo.of_eq rfl | exact binds_K (by k_in) rfl (by k_is) rfl rfl rfl); (case kB => exact rfl); (case kD => decide +kernel); (case c2 => exact rfl); (case c3 => exact rfl); (case c4 => exact rfl); k_whole; intro g' L' h' tk' cells' FG' F' N' Y' B' X' T' l1; (try k_lt l1); k_cells Y'; (try simp only [List.cons_append, List.nil_append] at N'); (try dsimp only); (try k_lift B'); (try k_fold)))
  k_with "k_room" => (ktr_room)
  k_with "units_room" => (ktr_units)
  k_with "k_enter" => (((fail_if_success k_inElt); ktr_enter))
  trivial
set_option maxRecDepth 100000 in
set_option maxHeartbeats 8000000 in
theorem box_raw (prog p : Program) (loose : List Str) (w : World) (mean : ExcName → Option Value) (mg mb : Str → Option Value) (dp un : Nat) (gd : Option (List Code)) (cn : Str) (cs : Scope) (a : Addr) (ccd : Value) (cl : List (Str × Addr)) (outer : List Env) (A₀ : Around) (base h₀ : Heap) (L : Addr) (m : Str → Option Value) (s : Shared) (Q E : Value → Shared → Prop)
    (l : Addr) (vs : List Value) (ns : List Int) (news : List (Addr × Obj))
    (B : Below A₀ base outer h₀) (F : Fr h₀ L s.heap m) (X : (hd.heap_1 w.params).In h₀) (N : News h₀ L s.heap news) (T : Top p loose mean mg mb h₀) (hk : cs.kind = .function)
    (hdp : dp + 1 < recursionLimit) (hun : un + 8 < cLine)
    (hl : base.IsList l vs.toArray) (hi : IntsAre vs ns) (hlen : ns.length ≤ 63)
    (hret : ∀ (b : Addr) (d' st' : Int) (t1' t2' : Tok) (n' : Nat) (h' : Heap) (tk' : Nat), BoxOk d' st' → Fr h₀ L h' m → News h₀ L h' ((b, boxO d' st' t1' t2' n') :: news) → (∀ p ∈ news, p.1 < b) → Q (.ref b) { s with heap := h', toks := tk' }) :
    Hint PySem.Challenge.rw_tg0038_01 hd.heap_1 (wpAny (model prog w) (ktrTop dp un gd cn cs L a ccd cl outer) (call (.ref 316) [.ref l]) Q E s) := by
  w_top off
  k_fill
  unfold Hint
  refine wpAny_call ?_
  k_dflt ktr_enter
  k_with "pyIter ref" => k_state (fun pre d st => 0 ≤ d ∧ 0 ≤ st ∧ st < 2147483647) "digits" "state"
  k_steps
  refine' hret _ _ _ _ _ _ _ _ ?kb (by k_asm) (cb_drop ?kN ?ks) ?kl
  case kN => assumption
  case ks => kcf_all
  case kb => exact ⟨by assumption, by assumption, by assumption⟩
  case kl =>
    repeat' (with_reducible rename _ ∧ _ => hc9; cases hc9)
    exact ktn_ltOf (by assumption)
theorem box_use {prog p : Program} {loose : List Str} {w : World} {mean : ExcName → Option Value} {mg mb : Str → Option Value} {dp un : Nat} {gd : Option (List Code)} {cn : Str} {cs : Scope} {a : Addr} {ccd : Value} {cl : List (Str × Addr)} {outer : List Env} {A₀ : Around} {base h₀ : Heap} {L : Addr} {m : Str → Option Value} {s : Shared} {Q E : Value → Shared → Prop}
    {l : Addr} {vs : List Value} {ns : List Int} {news : List (Addr × Obj)}
    (B : Below A₀ base outer h₀) (F : Fr h₀ L s.heap m) (X : (hd.heap_1 w.params).In h₀) (N : News h₀ L s.heap news) (T : Top p loose mean mg mb h₀) (hk : cs.kind = .function)
    (hdp : dp + 1 < recursionLimit) (hun : un + 8 < cLine)
    (hl : base.IsList l vs.toArray) (hi : IntsAre vs ns) (hlen : ns.length ≤ 63)
    (hret : ∀ (b : Addr) (d' st' : Int) (t1' t2' : Tok) (n' : Nat) (h' : Heap) (tk' : Nat), BoxOk d' st' → Fr h₀ L h' m → News h₀ L h' ((b, boxO d' st' t1' t2' n') :: news) → (∀ p ∈ news, p.1 < b) → Q (.ref b) { s with heap := h', toks := tk' }) :
    wpAny (model prog w) (ktrTop dp un gd cn cs L a ccd cl outer) (call (.ref 316) [.ref l]) Q E s :=
  Hint.out (box_raw prog p loose w mean mg mb dp un gd cn cs a ccd cl outer A₀ base h₀ L m s Q E l vs ns news B F X N T hk hdp hun hl hi hlen hret)
structure MenuMark (x : Int) : Prop where
structure PlaceMark (x : Int) : Prop where
structure JMark : Prop where
structure BoxIs (b : Addr) : Prop where
theorem upd_two {b : Addr} {ob : Obj} {news : List (Addr × Obj)} {g : Obj → List (Addr × Obj)} {x dx : Addr} (ox od : Obj) (hbx : BoxIs b) (U : UpdF b ob news g) (l : AllLt dx news) (h : @LT.lt Nat _ dx x) : UpdF b ob ((x, ox) :: (dx, od) :: news) (fun o => (x, ox) :: (dx, od) :: g o) := by
  obtain ⟨rest, hdis, hin, hto, hof⟩ := UpdF.turn U
  have hbn : (b, ob) ∈ news := hin _ (.head _)
  have h1 : @LT.lt Nat _ b dx := ktn_ltOf l (b, ob) hbn
  exact UpdF.tail (Nat.ne_of_gt (Nat.lt_trans h1 h)) (UpdF.tail (Nat.ne_of_gt h1) U)
/-- a goal at which the walk is to stop -/
def Hold (P : Prop) : Prop := P
theorem Hold.out {P : Prop} (h : Hold P) : P := h
theorem Hold.of {P : Prop} (h : P) : Hold P := h
/-- an int that the walk joins -/
def JoinInt (h₀ : Heap) (L : Addr) (m : Str → Option Value) (news : List (Addr × Obj)) (lo hi : Int) (s : Shared) (v : Value) (s' : Shared) : Prop :=
  ∃ (k : Int) (t : Tok) (h' : Heap) (tk' : Nat), v = .int k t ∧ lo ≤ k ∧ k ≤ hi ∧ s' = { s with heap := h', toks := tk' } ∧ Fr h₀ L h' m ∧ News h₀ L h' news
theorem join_int {prog : Program} {w : World} {A : Around} {E : Value → Shared → Prop} {s : Shared} {h₀ : Heap} {L : Addr} {m : Str → Option Value} {news : List (Addr × Obj)} {e : Expr} {env : Env} {Q : Value → Shared → Prop} (lo hi : Int)
    (F : Fr h₀ L s.heap m) (N : News h₀ L s.heap news)
    (h : JMark → wpAny (model prog w) A (eval e env) (JoinInt h₀ L m news lo hi s) E s) (go : ∀ k t h' tk', lo ≤ k → k ≤ hi → Fr h₀ L h' m → News h₀ L h' news → Q (.int k t) { s with heap := h', toks := tk' }) :
    wpAny (model prog w) A (eval e env) Q E s := by
  refine wpAny_mono (h ⟨⟩) (fun v s' hq => ?_) fun _ _ e => e
  obtain ⟨k, t, h', tk', rfl, h1, h2, rfl, F', N'⟩ := hq
  exact go k t h' tk' h1 h2 F' N'
theorem join_el {h₀ h' : Heap} {L : Addr} {m : Str → Option Value} {news : List (Addr × Obj)} {lo hi k : Int} {t : Tok} {s : Shared} {tk' : Nat} (h1 : lo ≤ k) (h2 : k ≤ hi) (F : Fr h₀ L h' m) (N : News h₀ L h' news) :
    JoinInt h₀ L m news lo hi s (.int k t) { s with heap := h', toks := tk' } := ⟨k, t, h', tk', rfl, h1, h2, rfl, F, N⟩
section
variable {prog : Program} {w : World} {A : Around} {E : Value → Shared → Prop} {s : Shared} {h₀ : Heap} {L D : Addr} {m : Str → Option Value} {news : List (Addr × Obj)} {Q : Value → Shared → Prop}
theorem menu3 {value slice : PySem.Expr} {a b c k : Int} {ta tb tc u : Tok} {n : Nat} (lo hi : Int) (N : News h₀ L s.heap news) (hm : (D, listOf #[.int a ta, .int b tb, .int c tc] n) ∈ news) (h0 : 0 ≤ k) (h1 : k < 3)
    (ha : lo ≤ a ∧ a ≤ hi) (hb : lo ≤ b ∧ b ≤ hi) (hc : lo ≤ c ∧ c ≤ hi) (h : ∀ x t, lo ≤ x → x ≤ hi → MenuMark x → Q (.int x t) s)
    (hs : subscripted slice false (.ref D) (.int k u) = operate [.ref D, .int k u] (getItem (.ref D) (.int k u)) := by with_unfolding_all rfl) :
    wpAny (model prog w) A (subscriptTail value slice (.ref D) (.int k u)) Q E s := by
  refine ksa_sub (vs := [.int a ta, .int b tb, .int c tc]) (ns := [a, b, c]) N hm (.cons a ta (.cons b tb (.cons c tc .nil))) h0 (by simpa using h1) (by omega) (fun t => ?_) hs
  have : k = 0 ∨ k = 1 ∨ k = 2 := by omega
  rcases this with rfl | rfl | rfl
  · exact h a t ha.1 ha.2 ⟨⟩
  · exact h b t hb.1 hb.2 ⟨⟩
  · exact h c t hc.1 hc.2 ⟨⟩
end
theorem row_el {h₀ : Heap} {L I C D : Addr} {m : Str → Option Value} {s₁ : Shared} {oI oC oD : Obj} {S : List (Addr × Obj) → Prop} {h' : Heap} {tk : Nat} {all news : List (Addr × Obj)} {ks : List Int} {win place k most : Int} {r : Nat} {t : Tok}
    (F : Fr h₀ L h' m) (N : News h₀ L h' all) (sub : ∀ p ∈ (I, oI) :: (C, oC) :: (D, oD) :: news, p ∈ all) (off : LCg.Off3 I C D news) (hS : S news) (hr : IsR ks win place k most r) :
    LCg.CompEnd h₀ L m s₁ I oI C oC D oD S (RowP ks win place most k news) (.int r t) { s₁ with heap := h', toks := tk } :=
  LCg.CompEnd.intro F N _ sub off hS ⟨⟨r, t, rfl, hr⟩, rfl⟩
theorem zero_el {h₀ : Heap} {L I C D : Addr} {m : Str → Option Value} {s₁ : Shared} {oI oC oD : Obj} {S : List (Addr × Obj) → Prop} {h' : Heap} {tk : Nat} {all news : List (Addr × Obj)} {ks : List Int} {win place most : Int} {r : Nat} {t : Tok}
    (F : Fr h₀ L h' m) (N : News h₀ L h' all) (sub : ∀ p ∈ (I, oI) :: (C, oC) :: (D, oD) :: news, p ∈ all) (off : LCg.Off3 I C D news) (hS : S news) (hr : IsR ks win place (-1) most r) :
    LCg.CompEnd h₀ L m s₁ I oI C oC D oD S (fun y nw => (∃ t, y = .int 0 t) ∧ nw = news) (.int r t) { s₁ with heap := h', toks := tk } := by
  obtain rfl := hr.none (.inl (by decide))
  exact LCg.CompEnd.intro F N _ sub off hS ⟨⟨t, rfl⟩, rfl⟩
theorem told_el {h₀ : Heap} {L I C D c r : Addr} {m : Str → Option Value} {s₁ : Shared} {oI oC oD oc : Obj} {h' : Heap} {tk : Nat} {all news : List (Addr × Obj)} {ks : List Int} {win place most : Int} {v : Option Value} {vs : List Value} {is : List Int} {n : Nat}
    (F : Fr h₀ L h' m) (N : News h₀ L h' all) (sub : ∀ p ∈ (I, oI) :: (C, oC) :: (D, oD) :: (c, oc) :: (r, listOf vs.toArray n) :: news, p ∈ all) (off : LCg.Off3 I C D ((c, oc) :: news)) (o : LCg.Off1 r ((I, oI) :: (C, oC) :: (D, oD) :: (c, oc) :: news)) (hd : oc.data = .cell v) (o1 : LCg.Off1 c news) (hi : IntsAre vs is) (hR : IsRow ks win place most is) :
    LCg.CompEnd h₀ L m s₁ I oI C oC D oD (fun _ => True) (RowEl ks win place most c news) (.ref r) { s₁ with heap := h', toks := tk } := by
  obtain ⟨hrI, hrC, hrD, hrc, o2⟩ := o
  refine LCg.CompEnd.intro F N _ sub (LCg.Off3.of fun p hp => ?_) trivial ⟨oc, v, r, vs, is, n, rfl, rfl, hd, Ne.symm hrc, o1, o2, hi, hR⟩
  rcases List.mem_cons.mp hp with rfl | hp
  · exact off.mem _ (.head _)
  · rcases List.mem_cons.mp hp with rfl | hp
    · exact ⟨Ne.symm hrI, Ne.symm hrC, Ne.symm hrD⟩
    · exact off.mem p (.tail _ hp)
section
variable {prog p : Program} {loose : List Str} {w : World} {mean : ExcName → Option Value} {mg mb : Str → Option Value} {dp un : Nat} {gd : Option (List Code)} {cn : Str} {cs : Scope} {a : Addr} {ccd : Value} {cl : List (Str × Addr)} {outer : List Env} {A₀ : Around} {base h₀ : Heap} {L : Addr} {m : Str → Option Value} {s : Shared} {Q E : Value → Shared → Prop}
theorem pick3 {value slice : PySem.Expr} {D x0 x1 x2 : Addr} {n : Nat} {k : Int} {u : Tok} {news : List (Addr × Obj)} {A : Around} (N : News h₀ L s.heap news) (hm : (D, listOf #[.ref x0, .ref x1, .ref x2] n) ∈ news) (h0 : 0 ≤ k) (h1 : k < 3)
    (h : ∀ y, (y = x0 ∨ y = x1 ∨ y = x2) → Q (.ref y) s)
    (hs : subscripted slice false (.ref D) (.int k u) = operate [.ref D, .int k u] (getItem (.ref D) (.int k u)) := by with_unfolding_all rfl) :
    wpAny (model prog w) A (subscriptTail value slice (.ref D) (.int k u)) Q E s := by
  have hl : s.heap.IsList D #[.ref x0, .ref x1, .ref x2] := PySem.IsL.isList (n := n) (N _ hm).1
  have : k = 0 ∨ k = 1 ∨ k = 2 := by omega
  rcases this with rfl | rfl | rfl
  · exact tail_any hl.typeIs slot_list_getitem.lookup (wpAny_getItem_list hl h0 (by decide) rfl (h _ (.inl rfl))) hs
  · exact tail_any hl.typeIs slot_list_getitem.lookup (wpAny_getItem_list hl h0 (by decide) rfl (h _ (.inr (.inl rfl)))) hs
  · exact tail_any hl.typeIs slot_list_getitem.lookup (wpAny_getItem_list hl h0 (by decide) rfl (h _ (.inr (.inr rfl)))) hs
theorem times_pick {y ry x0 x1 x2 dx0 dx1 dx2 r0 r1 r2 sh : Addr} {es0 es1 es2 : List DictEntry} {n0 n1 n2 m0 m1 m2 nsh : Nat} {bs : Array UInt8} {ks : List Int} {tb0 tb1 tb2 tw t1 t2 t3 : Tok} {v0 v1 v2 : List Value} {i0 i1 i2 : List Int} {win place most : Int} {news : List (Addr × Obj)}
    (B : Below A₀ base outer h₀) (F : Fr h₀ L s.heap m) (X : (hd.heap_1 w.params).In h₀) (N : News h₀ L s.heap news) (T : Top p loose mean mg mb h₀) (hk : cs.kind = .function)
    (hdp : dp + 4 < recursionLimit) (hun : un + 200 < cLine)
    (hy : y = x0 ∨ y = x1 ∨ y = x2) (hr : ry = r0 ∨ ry = r1 ∨ ry = r2)
    (a0 : (x0, instObj 226 dx0) ∈ news) (b0 : (dx0, dictOf es0 n0) ∈ news) (a1 : (x1, instObj 274 dx1) ∈ news) (b1 : (dx1, dictOf es1 n1) ∈ news) (a2 : (x2, instObj 307 dx2) ∈ news) (b2 : (dx2, dictOf es2 n2) ∈ news)
    (hs : (sh, listOf #[.int win t1, .int most t2] nsh) ∈ news) (c0 : (r0, listOf v0.toArray m0) ∈ news) (c1 : (r1, listOf v1.toArray m1) ∈ news) (c2 : (r2, listOf v2.toArray m2) ∈ news)
    (hbs : KBw.bInts bs = ks) (hC0 : ClsOk (hd.heap_1 w.params) 226) (hC1 : ClsOk (hd.heap_1 w.params) 274) (hC2 : ClsOk (hd.heap_1 w.params) 307) (hO0 : ObjOk es0 bs tb0 win tw) (hO1 : ObjOk es1 bs tb1 win tw) (hO2 : ObjOk es2 bs tb2 win tw)
    (hlen : ks.length ≤ 900) (hp0 : 0 ≤ place) (hp1 : place ≤ ks.length) (hw0 : 0 ≤ win) (hw1 : win < 900) (hm0 : 0 ≤ most) (hm1 : most < 900)
    (hi0 : IntsAre v0 i0) (hi1 : IntsAre v1 i1) (hi2 : IntsAre v2 i2) (hR0 : IsRow ks win place most i0) (hR1 : IsRow ks win place most i1) (hR2 : IsRow ks win place most i2)
    (hret : ∀ (h' : Heap) (tk' : Nat), Fr h₀ L h' m → News h₀ L h' news → Q (.bool true) { s with heap := h', toks := tk' }) :
    wpAny (model prog w) (ktrTop dp un gd cn cs L a ccd cl outer) (call (.ref 356) [.ref y, .int place t3, .ref sh, .ref ry]) Q E s := by
  rcases hy with rfl | rfl | rfl
  · rcases hr with rfl | rfl | rfl
    · exact times_use B F X N T hk hdp hun a0 b0 hs c0 hbs hC0 hO0 hlen hp0 hp1 hw0 hw1 hm0 hm1 hi0 hR0 hret
    · exact times_use B F X N T hk hdp hun a0 b0 hs c1 hbs hC0 hO0 hlen hp0 hp1 hw0 hw1 hm0 hm1 hi1 hR1 hret
    · exact times_use B F X N T hk hdp hun a0 b0 hs c2 hbs hC0 hO0 hlen hp0 hp1 hw0 hw1 hm0 hm1 hi2 hR2 hret
  · rcases hr with rfl | rfl | rfl
    · exact times_use B F X N T hk hdp hun a1 b1 hs c0 hbs hC1 hO1 hlen hp0 hp1 hw0 hw1 hm0 hm1 hi0 hR0 hret
    · exact times_use B F X N T hk hdp hun a1 b1 hs c1 hbs hC1 hO1 hlen hp0 hp1 hw0 hw1 hm0 hm1 hi1 hR1 hret
    · exact times_use B F X N T hk hdp hun a1 b1 hs c2 hbs hC1 hO1 hlen hp0 hp1 hw0 hw1 hm0 hm1 hi2 hR2 hret
  · rcases hr with rfl | rfl | rfl
    · exact times_use B F X N T hk hdp hun a2 b2 hs c0 hbs hC2 hO2 hlen hp0 hp1 hw0 hw1 hm0 hm1 hi0 hR0 hret
    · exact times_use B F X N T hk hdp hun a2 b2 hs c1 hbs hC2 hO2 hlen hp0 hp1 hw0 hw1 hm0 hm1 hi1 hR1 hret
    · exact times_use B F X N T hk hdp hun a2 b2 hs c2 hbs hC2 hO2 hlen hp0 hp1 hw0 hw1 hm0 hm1 hi2 hR2 hret
theorem whole_pick {y x0 x1 x2 dx0 dx1 dx2 : Addr} {es0 es1 es2 : List DictEntry} {n0 n1 n2 : Nat} {bs : Array UInt8} {ks : List Int} {tb0 tb1 tb2 tw t1 t2 : Tok} {win size : Int} {news : List (Addr × Obj)}
    (B : Below A₀ base outer h₀) (F : Fr h₀ L s.heap m) (X : (hd.heap_1 w.params).In h₀) (N : News h₀ L s.heap news) (T : Top p loose mean mg mb h₀) (hk : cs.kind = .function)
    (hdp : dp + 4 < recursionLimit) (hun : un + 200 < cLine)
    (hy : y = x0 ∨ y = x1 ∨ y = x2)
    (a0 : (x0, instObj 226 dx0) ∈ news) (b0 : (dx0, dictOf es0 n0) ∈ news) (a1 : (x1, instObj 274 dx1) ∈ news) (b1 : (dx1, dictOf es1 n1) ∈ news) (a2 : (x2, instObj 307 dx2) ∈ news) (b2 : (dx2, dictOf es2 n2) ∈ news)
    (hbs : KBw.bInts bs = ks) (hC0 : ClsOk (hd.heap_1 w.params) 226) (hC1 : ClsOk (hd.heap_1 w.params) 274) (hC2 : ClsOk (hd.heap_1 w.params) 307) (hO0 : ObjOk es0 bs tb0 win tw) (hO1 : ObjOk es1 bs tb1 win tw) (hO2 : ObjOk es2 bs tb2 win tw)
    (hlen : ks.length ≤ 900) (hs0 : 1 ≤ size) (hs : size = ks.length) (hw0 : 0 ≤ win) (hw1 : win < 900)
    (hret : ∀ (h' : Heap) (tk' : Nat), Fr h₀ L h' m → News h₀ L h' news → Q (.bool true) { s with heap := h', toks := tk' }) :
    wpAny (model prog w) (ktrTop dp un gd cn cs L a ccd cl outer) (call (.ref 361) [.ref y, .int size t1, .int win t2]) Q E s := by
  rcases hy with rfl | rfl | rfl
  · exact whole_use B F X N T hk hdp hun a0 b0 hbs hC0 hO0 hlen hs0 hs hw0 hw1 hret
  · exact whole_use B F X N T hk hdp hun a1 b1 hbs hC1 hO1 hlen hs0 hs hw0 hw1 hret
  · exact whole_use B F X N T hk hdp hun a2 b2 hbs hC2 hO2 hlen hs0 hs hw0 hw1 hret
end
/-- what the law's last blocks are told of -/
theorem told3' {prog : Program} {w : World} {A : Around} {h₀ : Heap} {L : Addr} {m : Str → Option Value} {env : Env} {elt : Expr} {x : Str} {scope : Scope} {cl : List (Str × Addr)} {c : Addr} {s : Shared} {S : List (Addr × Obj) → Prop} {s2 : Shared} {y : Str} {Q : Flow → Shared → Prop} {news : List (Addr × Obj)} {ks : List Int} {win place most : Int} {es : List DictEntry} {bs : Array UInt8} {tb tw : Tok}
    (hO : ObjOk es bs tb win tw) (hks : KBw.bInts bs = ks) (hp : PlaceMark place) (hm : MenuMark most) {b : Addr} (hbx : BoxIs b) {ob : Obj} {g : Obj → List (Addr × Obj)} (U : UpdF b ob news g) {x0 x1 x2 : Addr} (hS : ∀ nw, (∀ p ∈ news, p ∈ nw) → S nw)
    (t0 : ToldTurn prog w A h₀ L m env elt x scope cl c s ks win place most x0 [] news)
    (t1 : ∀ r0 vs0 is0 n0, LCg.Off1 r0 news → IntsAre vs0 is0 → IsRow ks win place most is0 → ToldTurn prog w A h₀ L m env elt x scope cl c s ks win place most x1 [.ref r0] ((r0, listOf vs0.toArray n0) :: news))
    (t2 : ∀ r0 vs0 is0 n0 r1 vs1 is1 n1, LCg.Off1 r0 news → IntsAre vs0 is0 → IsRow ks win place most is0 → LCg.Off1 r1 ((r0, listOf vs0.toArray n0) :: news) → IntsAre vs1 is1 → IsRow ks win place most is1 → ToldTurn prog w A h₀ L m env elt x scope cl c s ks win place most x2 [.ref r0, .ref r1] ((r1, listOf vs1.toArray n1) :: (r0, listOf vs0.toArray n0) :: news))
    (fin : ∀ r0 vs0 is n0 r1 vs1 n1 r2 vs2 n2, LCg.Off1 r0 news → IntsAre vs0 is → LCg.Off1 r1 ((r0, listOf vs0.toArray n0) :: news) → IntsAre vs1 is →
      LCg.Off1 r2 ((r1, listOf vs1.toArray n1) :: (r0, listOf vs0.toArray n0) :: news) → IntsAre vs2 is → IsRow ks win place most is →
      ∀ D h tk, UpdF b ob ((D, listOf #[.ref r0, .ref r1, .ref r2] 3) :: (r2, listOf vs2.toArray n2) :: (r1, listOf vs1.toArray n1) :: (r0, listOf vs0.toArray n0) :: news) (fun o => (D, listOf #[.ref r0, .ref r1, .ref r2] 3) :: (r2, listOf vs2.toArray n2) :: (r1, listOf vs1.toArray n1) :: (r0, listOf vs0.toArray n0) :: g o) → Fr h₀ L h (fun z => if z = y then some (.ref D) else m z) → News h₀ L h ((D, listOf #[.ref r0, .ref r1, .ref r2] 3) :: (r2, listOf vs2.toArray n2) :: (r1, listOf vs1.toArray n1) :: (r0, listOf vs0.toArray n0) :: news) → LCg.Off1 D ((r2, listOf vs2.toArray n2) :: (r1, listOf vs1.toArray n1) :: (r0, listOf vs0.toArray n0) :: news) → Q .next { s2 with heap := h, toks := tk }) :
    RestC prog w A h₀ L m env elt x scope cl c s S (fun i v => (#[.ref x0, .ref x1, .ref x2] : Array Value)[i]? = some v) (LCg.FinA h₀ L m s2 y Q) 3 0 [] news := by
  refine told3 hS t0 t1 t2 ?_
  intro r0 vs0 is0 n0 r1 vs1 is1 n1 r2 vs2 is2 n2 o0 i0 R0 o1 i1 R1 o2 i2 R2
  obtain rfl := R0.uniq R1
  obtain rfl := R0.uniq R2
  intro D h tk F N o
  obtain ⟨rest, hdis, hin, hto, hof⟩ := UpdF.turn U
  have hbn : (b, ob) ∈ news := hin _ (.head _)
  refine fin r0 vs0 is0 n0 r1 vs1 n1 r2 vs2 n2 o0 i0 o1 i1 o2 i2 R0 D h tk ?_ F N o
  refine UpdF.tail ?_ (UpdF.tail ?_ (UpdF.tail ?_ (UpdF.tail ?_ U)))
  · exact Ne.symm (off_all o (b, ob) (.tail _ (.tail _ (.tail _ hbn))))
  · exact Ne.symm (off_all o2 (b, ob) (.tail _ (.tail _ hbn)))
  · exact Ne.symm (off_all o1 (b, ob) (.tail _ hbn))
  · exact Ne.symm (off_all o0 (b, ob) hbn)
theorem row_rest' {prog : Program} {w : World} {A : Around} {h₀ : Heap} {L : Addr} {m : Str → Option Value} {env : Env} {elt : Expr} {x : Str} {scope : Scope} {cl : List (Str × Addr)} {s : Shared} {S : List (Addr × Obj) → Prop} {Fin : List Value → List (Addr × Obj) → Prop} {ks : List Int} {win place most : Int} {es : List DictEntry} {bs : Array UInt8} {tb tw : Tok} {n : Nat} {nws : List (Addr × Obj)}
    (hO : ObjOk es bs tb win tw) (hks : KBw.bInts bs = ks) (hp : PlaceMark place) (hm : MenuMark most) (hn : (n : Int) = place + 2)
    (turn : ∀ k t ys I oI C oC D m₂ h tk (E' : Value → Shared → Prop), 0 ≤ k → k < (n : Int) → LCg.NsObj oC m₂ → m₂ x = some (.int k t) → Fr h₀ L h m → News h₀ L h ((I, oI) :: (C, oC) :: (D, LCg.lst ys) :: nws) → LCg.Off3 I C D nws → ((@Ne Nat I C) ∧ (@Ne Nat I D) ∧ (@Ne Nat C D)) →
      wpAny (model prog w) A (eval elt (compEnvC scope cl C env)) (LCg.CompEnd h₀ L m { s with heap := h, toks := tk } I oI C oC D (LCg.lst ys) S (RowP ks win place most k nws)) E' { s with heap := h, toks := tk })
    (fin : ∀ ys is, IntsAre ys is → IsRow ks win place most is → Fin ys nws) : LCg.CompRest prog w A h₀ L m env elt x scope cl s S (fun i v => ∃ t, v = .int (0 + (i : Int)) t) Fin n 0 [] nws := row_rest hn turn fin
theorem eq_rows {prog : Program} {w : World} {A : Around} {E : Value → Shared → Prop} {s : Shared} {h₀ : Heap} {L : Addr} {news : List (Addr × Obj)} {Q : Value → Shared → Prop} {d l r0 r1 r2 q : Addr} {nd nl n0 n1 n2 nq : Nat} {v0 v1 v2 vq : List Value} {is : List Int}
    (N : News h₀ L s.heap news) (hd : (d, listOf #[.ref r0, .ref r1, .ref r2] nd) ∈ news) (hl : (l, listOf #[.ref q, .ref q, .ref q] nl) ∈ news)
    (m0 : (r0, listOf v0.toArray n0) ∈ news) (m1 : (r1, listOf v1.toArray n1) ∈ news) (m2 : (r2, listOf v2.toArray n2) ∈ news) (mq : (q, listOf vq.toArray nq) ∈ news)
    (i0 : IntsAre v0 is) (i1 : IntsAre v1 is) (i2 : IntsAre v2 is) (iq : IntsAre vq is) (hu : A.units + 64 < cLine) (h : Q (.bool true) s) :
    wpAny (model prog w) A (compareOp .Eq (.ref d) (.ref l)) Q E s := by
  have R0 := reads_newData (PySem.IsL.isList (n := n0) (N _ m0).1) (ke_carried i0)
  have R1 := reads_newData (PySem.IsL.isList (n := n1) (N _ m1).1) (ke_carried i1)
  have R2 := reads_newData (PySem.IsL.isList (n := n2) (N _ m2).1) (ke_carried i2)
  have Rq := reads_newData (PySem.IsL.isList (n := nq) (N _ mq).1) (ke_carried iq)
  have S : SeqAt.shaped (.list [.list (is.map PyData.int), .list (is.map PyData.int), .list (is.map PyData.int)]) = true := by
    simp [SeqAt.shaped, PyData.canLay0, PyData.canLayAll0, PyData.depth, PyData.depthAll, ke_canLayAll0, ke_depthAll]
  refine eq_dataH (reads_list_at (N _ hd).1 rfl rfl (ReadsAll.cons R0 (ReadsAll.cons R1 (ReadsAll.cons R2 ReadsAll.nil)))) (reads_list_at (N _ hl).1 rfl rfl (ReadsAll.cons Rq (ReadsAll.cons Rq (ReadsAll.cons Rq ReadsAll.nil)))) S S hu ?_
  simp only [PyData.eqv, PyData.eqvAll, ked_eqvAll, eq_self, decide_true, Bool.and_true]
  exact h
theorem eq_zeros {prog : Program} {w : World} {A : Around} {E : Value → Shared → Prop} {s : Shared} {h₀ : Heap} {L : Addr} {news : List (Addr × Obj)} {Q : Value → Shared → Prop} {d l : Addr} {nd nl : Nat} {a b c e f g : Tok}
    (N : News h₀ L s.heap news) (hd : (d, listOf #[.int 0 a, .int 0 b, .int 0 c] nd) ∈ news) (hl : (l, listOf #[.int 0 e, .int 0 f, .int 0 g] nl) ∈ news) (hu : A.units + 64 < cLine) (h : Q (.bool true) s) :
    wpAny (model prog w) A (compareOp .Eq (.ref d) (.ref l)) Q E s := by
  refine eq_intsK (vs := [.int 0 a, .int 0 b, .int 0 c]) (us := [.int 0 e, .int 0 f, .int 0 g]) (ns := [0, 0, 0]) (ms := [0, 0, 0]) (PySem.IsL.isList (n := nd) (N _ hd).1) (.cons 0 a (.cons 0 b (.cons 0 c .nil))) (PySem.IsL.isList (n := nl) (N _ hl).1) (.cons 0 e (.cons 0 f (.cons 0 g .nil))) hu ?_
  exact h
theorem zero_el0 {h₀ : Heap} {L I C D : Addr} {m : Str → Option Value} {s₁ : Shared} {oI oC oD : Obj} {S : List (Addr × Obj) → Prop} {h' : Heap} {tk : Nat} {all news : List (Addr × Obj)} {t : Tok}
    (F : Fr h₀ L h' m) (N : News h₀ L h' all) (sub : ∀ p ∈ (I, oI) :: (C, oC) :: (D, oD) :: news, p ∈ all) (off : LCg.Off3 I C D news) (hS : S news) :
    LCg.CompEnd h₀ L m s₁ I oI C oC D oD S (ZeroEl news) (.int 0 t) { s₁ with heap := h', toks := tk } :=
  LCg.CompEnd.intro F N _ sub off hS ⟨⟨t, rfl⟩, rfl⟩
theorem rows_conv {ks : List Int} {win place most : Int} {v : List Value} {is js : List Int} (h : IntsAre v js) (hj : IsRow ks win place most js) (hi : IsRow ks win place most is) : IntsAre v is := by
  rw [IsRow.uniq hi hj]
  exact h
theorem lt_to {b : Addr} : ∀ {l : List (Addr × Obj)}, (∀ p ∈ l, p.1 < b) → AllLt b l
  | [], _ => trivial
  | q :: r, h => ⟨h q (.head _), lt_to fun p hp => h p (.tail _ hp)⟩
theorem cls226_raw (w : World) : Hint PySem.Challenge.rw_tg0038_01 hd.heap_1 (ClsOk (hd.heap_1 w.params) 226) := by
  w_top off
  k_fill
  unfold Hint
  refine ⟨?_, ?_, ?_, ?_, ?_, ?_, ?_, ?_, ?_, ?_, ?_, ?_, ?_⟩
  all_goals k_is
theorem cls274_raw (w : World) : Hint PySem.Challenge.rw_tg0038_01 hd.heap_1 (ClsOk (hd.heap_1 w.params) 274) := by
  w_top off
  k_fill
  unfold Hint
  refine ⟨?_, ?_, ?_, ?_, ?_, ?_, ?_, ?_, ?_, ?_, ?_, ?_, ?_⟩
  all_goals k_is
theorem cls307_raw (w : World) : Hint PySem.Challenge.rw_tg0038_01 hd.heap_1 (ClsOk (hd.heap_1 w.params) 307) := by
  w_top off
  k_fill
  unfold Hint
  refine ⟨?_, ?_, ?_, ?_, ?_, ?_, ?_, ?_, ?_, ?_, ?_, ?_, ?_⟩
  all_goals k_is
local macro_rules | `(tactic| k_updF) => `(tactic| first | with_reducible assumption | (refine' UpdF.tail ?a ?b; (case b => with_reducible assumption); (case a => ((try dsimp only); (rename _ ∧ _ => hc9); (repeat (first | exact Nat.ne_of_gt hc9.1 | replace hc9 := hc9.2)); done))) | fail)
theorem zero_elR {h₀ : Heap} {L I C D : Addr} {m : Str → Option Value} {s₁ : Shared} {oI oC oD : Obj} {S : List (Addr × Obj) → Prop} {h' : Heap} {tk : Nat} {all news : List (Addr × Obj)} {t : Tok} {ks : List Int} {win place dist most : Int} {c : Nat}
    (F : Fr h₀ L h' m) (N : News h₀ L h' all) (sub : ∀ p ∈ (I, oI) :: (C, oC) :: (D, oD) :: news, p ∈ all) (off : LCg.Off3 I C D news) (hS : S news) (hR : IsR ks win place dist most c) (hd : dist < 1) :
    LCg.CompEnd h₀ L m s₁ I oI C oC D oD S (ZeroEl news) (.int (c : Int) t) { s₁ with heap := h', toks := tk } := by
  obtain rfl : c = 0 := hR.none (.inl hd)
  exact zero_el0 F N sub off hS
theorem rows14 : True := by
  k_with_none
  k_with "k_all" => (first | assumption | exact lt_all (by assumption) | exact off_all (by assumption) | ((repeat' (with_reducible rename _ ∧ _ => hc9; cases hc9)); first | exact lt_all (by assumption) | exact lt_all1 (by assumption) | exact lt_all2 (by assumption) | exact off_all (by assumption)) | (refine List.forall_mem_append.mpr (And.intro ?_ ?_) <;> k_all))
  k_with "ktr_enter" => (first   | (refine' code_def ?k1 ?k2 ?k3 ?k4 ?k5 ?kA ?kF ?kK ?k6 ?k7 ?k8 ?k9 ?kB ?_ ?c2 ?c3 ?c4 ?c5; (case kA => exact rfl); (case kF => exact rfl); (case kK => first | exact rfl | assumption); (case k1 => k_asm); (case k2 => k_asm); (case k3 => k_asm); (case k4 => k_asm); (case k5 => k_asm); (case k6 => k_is); (case k7 => k_is); (case k8 => ktr_room); (case k9 => first | exact BindsTo.of_eq rfl | exact binds_K (by k_in) rfl (by k_is) rfl rfl rfl); (case c5 => decide); (case kB => exact locs rfl); (case c2 => exact rfl); (case c3 => exact rfl); (case c4 => exact rfl); k_whole; intro g' L' h' FG' F' N' B' X' T'; (try dsimp only); (try k_lift B'); (try k_fold))   | (refine' code_defC ?k1 ?k2 ?k3 ?k4 ?k5 ?kA ?kF ?kK ?k6 ?k7 ?k8 ?k9 ?kB ?kD ?_ ?c2 ?c3 ?c4; (case kA => exact rfl); (case kF => exact rfl); (case kK => first | exact rfl | assumption); (case k1 => k_asm); (case k2 => k_asm); (case k3 => k_asm); (case k4 => k_asm); (case k5 => k_asm); (case k6 => k_is); (case k7 => k_is); (case k8 => ktr_room); (case k9 => first | exact BindsTo.of_eq rfl | exact binds_K (by k_in) rfl (by k_is) rfl rfl rfl); (case kB => exact rfl); (case kD => decide +kernel); (case c2 => exact rfl); (case c3 => exact rfl); (case c4 => exact rfl); k_whole; intro g' L' h' tk' cells' FG' F' N' Y' B' X' T' l1; (try k_lt l1); k_cells Y'; (try simp only [List.cons_append, List.nil_append] at N'); (try dsimp only); (try k_lift B'); (try k_fold)))
  k_with "k_room" => (ktr_room)
  k_with "units_room" => (ktr_units)
  k_with "k_enter" => (((fail_if_success k_inElt); ktr_enter))
  k_with "k_is" => (with_reducible assumption)
  k_with "k_get" => (with_reducible assumption)
  k_with "call ref" => ((k_here; (with_reducible show wpAny _ _ (call (Value.ref 166) _ _) _ _ _); k_dflt (refine' repeat_use ?k1 ?k2 ?k3 ?k4 ?k5 ?kK ?kd ?ku ?hx ?hdx ?hb ?e1 ?e2 ?p0 ?p1 ?p2 ?p3 ?_; (case k1 => k_asm); (case k2 => k_asm); (case k3 => k_asm); (case k4 => k_asm); (case k5 => k_asm); (case kK => first | exact rfl | assumption); (case kd => ktr_room); (case ku => ktr_units); (case hx => k_mem); (case hdx => k_mem); (case hb => assumption); (case e1 => assumption); (case e2 => assumption); (case p0 => omega); (case p1 => omega); (case p2 => omega); (case p3 => omega); k_whole); intro c' t' h' tk' F' N' hRp'; (try dsimp only); (try k_fold)))
  k_with "k_all" => (with_reducible assumption)
  k_with "call ref" => ((k_here; (with_reducible show wpAny _ _ (call (Value.ref 316) _ _) _ _ _); k_dflt (refine' box_use ?k1 ?k2 ?k3 ?k4 ?k5 ?kK ?kd ?ku ?kl ?ki ?kn ?_; (case k1 => k_asm); (case k2 => k_asm); (case k3 => k_asm); (case k4 => k_asm); (case k5 => k_asm); (case kK => first | exact rfl | assumption); (case kd => ktr_room); (case ku => ktr_units); (case kl => assumption); (case ki => assumption); (case kn => omega); k_whole); intro b' d' st' t1' t2' n' h' tk' hb' F' N' hlt'; (have l1 := lt_to hlt'); (have hn1 := lt_all l1); (have hbx := BoxIs.mk (b := b')); (simp only [AllLt, and_true] at l1); clear hlt'; (try dsimp only); (try k_fold)))
  k_with "call ref" => ((k_here; (with_reducible show wpAny _ _ (call (Value.ref 323) _ _) _ _ _); k_dflt (refine' take_use ?k1 ?k2 ?k3 ?k4 ?k5 ?kK ?kd ?ku ?kU ?kb ?p1 ?p2 ?_; (case k1 => k_asm); (case k2 => k_asm); (case k3 => k_asm); (case k4 => k_asm); (case k5 => k_asm); (case kK => first | exact rfl | assumption); (case kd => ktr_room); (case ku => ktr_units); (case kU => first | with_reducible assumption | k_updF); (case kb => assumption); (case p1 => first | decide | omega); (case p2 => first | decide | omega); k_whole); intro r' t' d' st' t1' t2' n' h' tk' F' N' hb' hr0' hr1'; (try dsimp only); (try k_fold)))
  k_with "call ref" => ((k_here; (with_reducible show wpAny _ _ (call (Value.ref 335) _ _) _ _ _); k_dflt (refine' text_use ?k1 ?k2 ?k3 ?k4 ?k5 ?kK ?kd ?ku ?kU ?kb ?p1 ?p2 ?_; (case k1 => k_asm); (case k2 => k_asm); (case k3 => k_asm); (case k4 => k_asm); (case k5 => k_asm); (case kK => first | exact rfl | assumption); (case kd => ktr_room); (case ku => ktr_units); (case kU => k_updF); (case kb => assumption); (case p1 => first | decide | omega); (case p2 => first | decide | omega); k_whole); intro l' bs' ks' place' tb' tp' nn' d' st' t1' t2' n' h' tk' F' N' off' hb' hks' h5' h60' hp0' hp1'; (have pm' : PlaceMark place' := ⟨⟩); (try dsimp only at N' off'); (try simp only [LCg.Off1, and_true] at off'); (try dsimp only); (try k_fold)))
  k_with "call ref" => ((k_here; (with_reducible show wpAny _ _ (call (Value.ref 226) _ _) _ _ _); k_dflt (refine' make1_use ?k1 ?k2 ?k3 ?k4 ?k5 ?kK ?kd ?ku ?hb ?hl ?l1 ?l2 ?w1 ?w2 ?c1 ?c2 ?_; (case k1 => k_asm); (case k2 => k_asm); (case k3 => k_asm); (case k4 => k_asm); (case k5 => k_asm); (case kK => first | exact rfl | assumption); (case kd => ktr_room); (case ku => ktr_units); (case hb => assumption); (case hl => omega); (case l1 => first | decide | omega); (case l2 => first | decide | omega); (case w1 => first | decide | omega); (case w2 => first | decide | omega); (case c1 => first | decide | omega); (case c2 => first | decide | omega); k_whole); intro x' dx' es' n' tb' h' tk' F' N' hlt' l1 hO'; (have hg' := hO'.g6); (have hU' := upd_two (instObj 226 dx') (dictOf es' n') (by with_reducible assumption) (by first | with_reducible assumption | k_updF | fail) l1 hlt'); (try simp only [AllLt, and_true] at l1); (try dsimp only); (try k_fold)))
  k_with "call ref" => ((k_here; (with_reducible show wpAny _ _ (call (Value.ref 274) _ _) _ _ _); k_dflt (refine' make2_use ?k1 ?k2 ?k3 ?k4 ?k5 ?kK ?kd ?ku ?hb ?hl ?l1 ?l2 ?w1 ?w2 ?c1 ?c2 ?_; (case k1 => k_asm); (case k2 => k_asm); (case k3 => k_asm); (case k4 => k_asm); (case k5 => k_asm); (case kK => first | exact rfl | assumption); (case kd => ktr_room); (case ku => ktr_units); (case hb => assumption); (case hl => omega); (case l1 => first | decide | omega); (case l2 => first | decide | omega); (case w1 => first | decide | omega); (case w2 => first | decide | omega); (case c1 => first | decide | omega); (case c2 => first | decide | omega); k_whole); intro x' dx' es' n' tb' h' tk' F' N' hlt' l1 hO'; (have hg' := hO'.g6); (have hU' := upd_two (instObj 274 dx') (dictOf es' n') (by with_reducible assumption) (by first | with_reducible assumption | k_updF | fail) l1 hlt'); (try simp only [AllLt, and_true] at l1); (try dsimp only); (try k_fold)))
  k_with "call ref" => ((k_here; (with_reducible show wpAny _ _ (call (Value.ref 307) _ _) _ _ _); k_dflt (refine' make3_use ?k1 ?k2 ?k3 ?k4 ?k5 ?kK ?kd ?ku ?hb ?hl ?w1 ?w2 ?c1 ?c2 ?_; (case k1 => k_asm); (case k2 => k_asm); (case k3 => k_asm); (case k4 => k_asm); (case k5 => k_asm); (case kK => first | exact rfl | assumption); (case kd => ktr_room); (case ku => ktr_units); (case hb => assumption); (case hl => omega); (case w1 => first | decide | omega); (case w2 => first | decide | omega); (case c1 => first | decide | omega); (case c2 => first | decide | omega); k_whole); intro x' dx' es' n' tb' h' tk' F' N' hlt' l1 hO'; (have hg' := hO'.g6); (have hU' := upd_two (instObj 307 dx') (dictOf es' n') (by with_reducible assumption) (by first | with_reducible assumption | k_updF | fail) l1 hlt'); (try simp only [AllLt, and_true] at l1); (try dsimp only); (try k_fold)))
  k_with "call ref" => ((k_here; (with_reducible show wpAny _ _ (call (Value.ref 349) _ _) _ _ _); k_dflt (refine' two_use ?k1 ?k2 ?k3 ?k4 ?k5 ?kK ?kd ?ku ?m0 ?m1 ?m2 ?m3 ?i0 ?i1 ?i2 ?p0 ?p1 ?r0 ?r1 ?r2 ?_; (case k1 => k_asm); (case k2 => k_asm); (case k3 => k_asm); (case k4 => k_asm); (case k5 => k_asm); (case kK => first | exact rfl | assumption); (case kd => ktr_room); (case ku => ktr_units); (case m0 => k_mem); (case m1 => k_mem); (case m2 => k_mem); (case m3 => k_mem); (case i0 => assumption); (case i1 => assumption); (case i2 => assumption); (case r0 => assumption); (case r1 => assumption); (case r2 => assumption); (case p0 => omega); (case p1 => omega); k_whole); intro h' tk' F' N'; (try dsimp only); (try k_fold)))
  k_with "call ref" => ((k_here; (with_reducible show wpAny _ _ (call (Value.ref 356) _ _) _ _ _); k_dflt (refine' times_pick ?k1 ?k2 ?k3 ?k4 ?k5 ?kK ?kd ?ku ?hy ?hr ?a0 ?b0 ?a1 ?b1 ?a2 ?b2 ?hs ?d0 ?d1 ?d2 ?hb ?e0 ?e1 ?e2 ?o0 ?o1 ?o2 ?hl ?p0 ?p1 ?w0 ?w1 ?q0 ?q1 ?i0 ?i1 ?i2 ?r0 ?r1 ?r2 ?_; (case k1 => k_asm); (case k2 => k_asm); (case k3 => k_asm); (case k4 => k_asm); (case k5 => k_asm); (case kK => first | exact rfl | assumption); (case kd => ktr_room); (case ku => ktr_units); (case hy => assumption); (case hr => assumption); (case a0 => k_mem); (case b0 => k_mem); (case a1 => k_mem); (case b1 => k_mem); (case a2 => k_mem); (case b2 => k_mem); (case hs => k_mem); (case d0 => k_mem); (case d1 => k_mem); (case d2 => k_mem); (case hb => assumption); (case e0 => assumption); (case e1 => assumption); (case e2 => assumption); (case o0 => assumption); (case o1 => assumption); (case o2 => assumption); (case hl => omega); (case p0 => omega); (case p1 => omega); (case w0 => omega); (case w1 => omega); (case q0 => omega); (case q1 => omega); (case i0 => assumption); (case i1 => assumption); (case i2 => assumption); (case r0 => assumption); (case r1 => assumption); (case r2 => assumption); k_whole); intro h' tk' F' N'; (try dsimp only); (try k_fold)))
  k_with "call ref" => ((k_here; (with_reducible show wpAny _ _ (call (Value.ref 361) _ _) _ _ _); k_dflt (refine' whole_pick ?k1 ?k2 ?k3 ?k4 ?k5 ?kK ?kd ?ku ?hy ?a0 ?b0 ?a1 ?b1 ?a2 ?b2 ?hb ?e0 ?e1 ?e2 ?o0 ?o1 ?o2 ?hl ?s0 ?s1 ?w0 ?w1 ?_; (case k1 => k_asm); (case k2 => k_asm); (case k3 => k_asm); (case k4 => k_asm); (case k5 => k_asm); (case kK => first | exact rfl | assumption); (case kd => ktr_room); (case ku => ktr_units); (case hy => assumption); (case a0 => k_mem); (case b0 => k_mem); (case a1 => k_mem); (case b1 => k_mem); (case a2 => k_mem); (case b2 => k_mem); (case hb => assumption); (case e0 => assumption); (case e1 => assumption); (case e2 => assumption); (case o0 => assumption); (case o1 => assumption); (case o2 => assumption); (case hl => omega); (case s0 => omega); (case s1 => first | rfl | omega); (case w0 => omega); (case w1 => omega); k_whole); intro h' tk' F' N'; (try dsimp only); (try k_fold)))
  k_with "call ref" => ((k_here; (with_reducible show wpAny _ _ (call (Value.ref 368) _ _) _ _ _); k_dflt (refine' plain_use ?k1 ?k2 ?k3 ?k4 ?k5 ?kK ?kd ?ku ?m0 ?hb ?hl ?p0 ?p1 ?w0 ?w1 ?q0 ?q1 ?_; (case k1 => k_asm); (case k2 => k_asm); (case k3 => k_asm); (case k4 => k_asm); (case k5 => k_asm); (case kK => first | exact rfl | assumption); (case kd => ktr_room); (case ku => ktr_units); (case m0 => k_mem); (case hb => assumption); (case hl => omega); (case p0 => omega); (case p1 => omega); (case w0 => omega); (case w1 => omega); (case q0 => omega); (case q1 => omega); k_whole); (rename (IsRow _ _ _ _ _) => hRo9); intro l' vs' is' nn' h' tk' F' N' off' hi' hR'; (obtain rfl := IsRow.uniq hRo9 hR'); (try dsimp only); (try k_fold)))
  k_with "eval IfExp" => ((k_here; (fail_if_success (have hJ9 : JMark := by with_reducible assumption)); k_dflt (refine join_int 2 4 (by k_asm) (by k_asm) ?_ ?_); intro hJ9; rotate_left; (intro k' t' h' tk' hlo' hhi' F' N'); rotate_left; (all_goals (try dsimp only)); (all_goals (try k_fold))))
  k_with "JoinInt" => ((k_here; k_dflt (exact join_el (by decide) (by decide) (by k_asm) (by k_asm))))
  k_with "subscriptTail" => (k_here; (with_reducible show wpAny _ _ (subscriptTail _ _ (Value.ref _) (Value.int _ _)) _ _ _); k_dflt (first | (refine menu3 1 60 (by k_asm) (by k_mem) (by omega) (by omega) (by omega) (by omega) (by omega) ?_ (by with_unfolding_all rfl); k_whole) | (refine menu3 0 60 (by k_asm) (by k_mem) (by omega) (by omega) (by omega) (by omega) (by omega) ?_ (by with_unfolding_all rfl); k_whole) | fail); intro _ _ _ _ _)
  k_with "subscriptTail" => (k_here; (with_reducible show wpAny _ _ (subscriptTail _ _ (Value.ref _) (Value.int _ _)) _ _ _); k_dflt (first | (refine pick3 (by k_asm) (by k_mem) (by omega) (by omega) ?_ (by with_unfolding_all rfl); k_whole) | fail); intro _ _)
  k_with "exec Assign cons ListComp" => ((k_here; k_dflt (refine Assign_ListComp_C (F₀ := by k_asm) rfl (by with_unfolding_all rfl) (by with_unfolding_all rfl) (fun _ => rfl) (fun _ => rfl) rfl (by decide) (fun _ _ => rfl) rfl rfl ?_)))
  k_with "SrcC" => ((k_here; k_dflt (refine SrcC.of (by rfl) (by k_asm) (by k_asm) (by k_mem) (by exact Nat.le_of_ble_eq_true rfl) ?_); intro g' c' o1'; (refine' told3' (by with_reducible assumption) (by with_reducible assumption) (by with_reducible assumption) (by with_reducible assumption) (by with_reducible assumption) ?hU ?hS ?_ ?_ ?_ ?_; (case hU => k_updF); (case hS => exact fun nw hn => .inr ⟨_, hn _ (by k_mem), rfl, _, rfl⟩)); (intro I' oI' C' oC' D' oc' h' tk' E' hoc' F' N' off' o1' ne'; (try dsimp only at hoc'); (try simp only [LCg.Off3, LCg.Off1, and_true] at off' o1')); rotate_left; (intro r0' vs0' is0' n0' o0' i0' R0'; (intro I' oI' C' oC' D' oc' h' tk' E' hoc' F' N' off' o1' ne'; (try dsimp only at hoc'); (try simp only [LCg.Off3, LCg.Off1, and_true] at off' o1'))); rotate_left; (intro r0' vs0' is0' n0' r1' vs1' is1' n1' o0' i0' R0' o1' i1' R1'; (intro I' oI' C' oC' D' oc' h' tk' E' hoc' F' N' off' o1' ne'; (try dsimp only at hoc'); (try simp only [LCg.Off3, LCg.Off1, and_true] at off' o1'))); rotate_left; (intro r0' vs0' is0' n0' r1' vs1' n1' r2' vs2' n2' o0' i0' o1' i1' o2' i2' R0' D' h' tk' U' F' N' off'; (try dsimp only at F')); rotate_left; (all_goals (try dsimp only)); (all_goals (try k_fold))))
  k_with "CompSrc" => ((k_here; k_dflt (refine LCg.CompSrc.range (by rfl) (by k_asm) (by k_asm) (by assumption) (by exact small_one (by omega) (by omega) (by omega) (by omega)) (by exact rangeSize_nat _ _) (by rw [PySem.sizeLine_eq]; omega) ?_); intro g'; (refine' row_rest' (by with_reducible assumption) (by with_reducible assumption) (by with_reducible assumption) (by with_reducible assumption) (by omega) ?_ ?_); (intro k' t' ys' I' oI' C' oC' D' m' h' tk' E' hlo' hhi' hC' hx' F' N' off' ne'; (try simp only [LCg.Off3, and_true] at off')); rotate_left; (intro ys' is' hi' hR'); rotate_left; (all_goals (try dsimp only)); (all_goals (try k_fold))))
  k_with "CompSrc" => ((k_here; k_dflt (refine LCg.CompSrc.ledger (by rfl) (by k_asm) (by k_asm) (by k_mem) (by exact Nat.le_of_ble_eq_true rfl) ?_); intro g'; k_dflt (refine' zero3 ?_ ?_ ?_ ?_); (intro I' oI' C' oC' D' m' h' tk' E' hC' hx' F' N' off' ne'; (try simp only [LCg.Off3, and_true] at off')); rotate_left; (intro u'; (intro I' oI' C' oC' D' m' h' tk' E' hC' hx' F' N' off' ne'; (try simp only [LCg.Off3, and_true] at off'))); rotate_left; (intro u' v'; (intro I' oI' C' oC' D' m' h' tk' E' hC' hx' F' N' off' ne'; (try simp only [LCg.Off3, and_true] at off'))); rotate_left; intro u' v' w'; rotate_left; (all_goals (try dsimp only)); (all_goals (try k_fold))))
  k_with "CompEnd" => (((with_reducible show LCg.CompEnd _ _ _ _ _ _ _ _ _ _ _ (RowP _ _ _ _ _ _) (Value.int _ _) _); k_dflt (refine' row_el ?kF ?kN ?ksub ?koff ?kS ?kr; (case kF => assumption); (case kN => assumption); (case ksub => (try dsimp only); kcf_all); (case koff => first | assumption | ((simp only [LCg.Off3, and_true]); assumption)); (case kS => exact trivial); (case kr => assumption))))
  k_with "CompEnd" => (((with_reducible show LCg.CompEnd _ _ _ _ _ _ _ _ _ _ _ (RowEl _ _ _ _ _ _) (Value.ref _) _); k_dflt (refine' told_el ?kF ?kN ?ksub ?koff ?o ?hd ?o1 ?hi ?hR; (case kF => assumption); (case kN => assumption); (case ksub => (try dsimp only); kcf_all); (case koff => first | assumption | ((simp only [LCg.Off3, and_true]); assumption)); (case hd => assumption); (case hi => assumption); (case hR => assumption); (case o => simp only [LCg.Off1, and_true]; assumption); (case o1 => simp only [LCg.Off1, and_true]; assumption); skip)))
  k_with "CompEnd" => (((with_reducible show LCg.CompEnd _ _ _ _ _ _ _ _ _ _ _ (ZeroEl _) (Value.int _ _) _); k_dflt (refine' zero_el0 ?kF ?kN ?ksub ?koff ?kS; (case kF => assumption); (case kN => assumption); (case ksub => (try dsimp only); kcf_all); (case koff => first | assumption | ((simp only [LCg.Off3, and_true]); assumption)); (case kS => exact .inr ⟨_, by k_mem, rfl, _, rfl⟩))))
  k_with "CompEnd" => (((with_reducible show LCg.CompEnd _ _ _ _ _ _ _ _ _ _ _ (ZeroEl _) (Value.int _ _) _); k_dflt (refine' zero_elR ?kF ?kN ?ksub ?koff ?kS ?kR ?kd; (case kF => assumption); (case kN => assumption); (case ksub => (try dsimp only); kcf_all); (case koff => first | assumption | ((simp only [LCg.Off3, and_true]); assumption)); (case kR => with_reducible assumption); (case kd => first | decide | omega); (case kS => exact .inr ⟨_, by k_mem, rfl, _, rfl⟩))))
  k_with "compareOp Eq ref ref" => ((refine Hold.out ?_))
  trivial
set_option maxRecDepth 100000 in
set_option maxHeartbeats 16000000 in
theorem law_holds : PySem.Challenge.rw_tg0038_01.Holds := hd (by
  w_top off
  k_go0
  all_goals try k_fold
  rename World => ww
  have c1 := Hint.out (cls226_raw ww)
  have c2 := Hint.out (cls274_raw ww)
  have c3 := Hint.out (cls307_raw ww)
  k_steps
  refine Hold.of ?_
  refine' eq_rows ?N ?hd ?hl ?m0 ?m1 ?m2 ?mq ?i0 ?i1 ?i2 ?iq ?hu ?_
  case N => k_asm
  case hd => k_mem
  case hl => k_mem
  case m0 => k_mem
  case m1 => k_mem
  case m2 => k_mem
  case mq => k_mem
  case i0 => with_reducible assumption
  case i1 => with_reducible assumption
  case i2 => with_reducible assumption
  case iq => exact rows_conv (by with_reducible assumption) (by with_reducible assumption) (by with_reducible assumption)
  case hu => ke_room
  repeat' (first | ((fail_if_success (with_reducible show LCg.CompSrc _ _ _ _ _ _ _ _ _ _ _ _ _ _)); first | (k_unfold; (try dsimp only)) | (k_end; wrow_close) | walk1 | (dsimp only; walk1) | (leave1; walk_say "STEP leave1"; try dsimp only)) | fail "no step")
  refine LCg.CompSrc.ledger (by rfl) (by k_asm) (by k_asm) (by k_mem) (by exact Nat.le_of_ble_eq_true rfl) ?_
  intro g'
  refine' zero3 ?_ ?_ ?_ ?_
  · (intro I' oI' C' oC' D' m' h' tk' E' hC' hx' F' N' off' ne'; (try simp only [LCg.Off3, and_true] at off'); (try dsimp only); (try k_fold))
    k_steps
  · intro u'
    (intro I' oI' C' oC' D' m' h' tk' E' hC' hx' F' N' off' ne'; (try simp only [LCg.Off3, and_true] at off'); (try dsimp only); (try k_fold))
    k_steps
  · intro u' v'
    (intro I' oI' C' oC' D' m' h' tk' E' hC' hx' F' N' off' ne'; (try simp only [LCg.Off3, and_true] at off'); (try dsimp only); (try k_fold))
    k_steps
  intro u' v' w'
  (try dsimp only)
  (try k_fold)
  k_steps
  refine Hold.of ?_
  refine' eq_zeros ?N ?hd ?hl ?hu ?_
  case N => k_asm
  case hl => exact List.Mem.head _
  case hd => exact List.Mem.tail _ (List.Mem.head _)
  case hu => ke_room
  k_steps)
end Mine
theorem PySem.Challenge.cw_tg0038_01_holds : PySem.Challenge.rw_tg0038_01.Holds :=
  Mine.law_holds
