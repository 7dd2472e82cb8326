import PyProof.Rows.All
import Wide.All
import OpenK.AllK
import Wide.FinOn
import Lean
import PySem.Challenge.RW_rh0165_01
open PySem PySem.W PyProof.Rows
set_option Elab.async false
set_option linter.all false
set_option compiler.extract_closed false
set_option maxRecDepth 100000
set_option maxHeartbeats 8000000
namespace Mine
/-- the top's run on trees, and a look at what it leaves -/
def topLook {β : Type} (seg : Nat → SharedT → Thread → Option (Flow × SharedT × Code × Pos)) (top : Nat → Shared → Thread → Option Shared) (n3 n4 : Nat) (fr : List Frame) (look : Shared → β) (s : SharedT) (th : Thread) : Option (Code × Pos × Option β) :=
  match seg n3 s th with
  | some (.next, T, c, pos) => some (c, pos, (top n4 T.abs ⟨doneF .next, c, pos, fr⟩).map look)
  | _ => none
theorem topLook_some {β : Type} {seg : Nat → SharedT → Thread → Option (Flow × SharedT × Code × Pos)} {top : Nat → Shared → Thread → Option Shared} {n3 n4 : Nat} {fr : List Frame} {look : Shared → β} {s : SharedT} {th : Thread} {c : Code} {pos : Pos} {b : β}
    (h : topLook seg top n3 n4 fr look s th = some (c, pos, some b)) : ∃ T r, seg n3 s th = some (.next, T, c, pos) ∧ top n4 T.abs ⟨doneF .next, c, pos, fr⟩ = some r ∧ look r = b := by
  unfold topLook at h
  split at h
  · rename_i T c' pos' hs
    simp only [Option.some.injEq, Prod.mk.injEq] at h
    obtain ⟨rfl, rfl, h⟩ := h
    obtain ⟨r, hr, hl⟩ := Option.map_eq_some_iff.mp h
    exact ⟨T, r, hs, hr, hl⟩
  · cases h
theorem left_of {p q : Program} {loose : List Str} {Xt : Shared → Bool} {α : Type} {Yf : Shared → α} {Ya : World → α} {N : Nat} {g0 : Bool} {H₀ : Params → Heap} {gs₀ : Array GenState} {d₀ : Drawn} {k₀ : Nat} {m₀ : Nat} {ann : Option Value} {n1 n2 n3 n4 : Nat}
    {b : List Stmt} {env : Env} {q0 p1 p2 : Pos} {Sa : World → OsState → Shared} {T0 : World → OsState → SharedT}
    (open_ : ∀ w : World, (fencedOpening treeTable p w N).map (fun s => (s.heap, s.gens, s.drawn, s.toks)) = some (H₀ w.params, gs₀, d₀, k₀))
    (size : ∀ w : World, ((H₀ w.params).isNs mainGlobals && gs₀.size == 0, (H₀ w.params).objs.size, (H₀ w.params).nsMap mainGlobals "__annotations__") = (true, m₀, ann))
    (pre : ∀ (w : World) (os : OsState), topGo treeTable p w m₀ ann n1 ⟨H₀ w.params, gs₀, d₀, k₀, os⟩ (topStub p) = some (Sa w os, ⟨denote treeTable (.body b env), .body b env, q0, [topFrame q0]⟩))
    (block : ∀ (w : World) (os : OsState), segRun treeTable p w m₀ ann 1 n2 (Sa w os) (blockOf b env (.body b env) q0 [topFrame q0]) = some (.next, (T0 w os).abs, .body b env, p1))
    (big1 : ∀ w : World, (fun os => topLook (segRunT treeTable p w m₀ ann 1) (topRun treeTable p w m₀ ann) n3 n4 [topFrame q0]
      (fun s => ((staticsOk (importedModules p.main.body) (H₀ w.params) s.heap && namesBound p s.heap && gensDone s && laidKept (H₀ w.params) s.heap), (openSeen q loose (importedModules p.main.body) Xt g0 s).1, (openSeen q loose (importedModules p.main.body) Xt g0 s).2.1, (openSeen q loose (importedModules p.main.body) Xt g0 s).2.2.1))
      (T0 w os) (piecesOf b env (.body b env) p1 [topFrame q0])) = fun _ => some (.body b env, p2, some (true, expectedOf q, bltViewBooted, true)))
    (big2 : ∀ w : World, (fun os => topLook (segRunT treeTable p w m₀ ann 1) (topRun treeTable p w m₀ ann) n3 n4 [topFrame q0]
      (fun s => (openSeen q loose (importedModules p.main.body) Xt g0 s).2.2.2)
      (T0 w os) (piecesOf b env (.body b env) p1 [topFrame q0])) = fun _ => some (.body b env, p2, some (true, pinGoodD (drecsOf q), plainGoodE q (looseW q loose), plainGoodD q loose, wideGood q, clsGoodW q loose)))
    (big3 : ∀ w : World, (fun os => topLook (segRunT treeTable p w m₀ ann 1) (topRun treeTable p w m₀ ann) n3 n4 [topFrame q0]
      (fun s => Yf s)
      (T0 w os) (piecesOf b env (.body b env) p1 [topFrame q0])) = fun _ => some (.body b env, p2, some (Ya w)))
    (le : Nat.ble (n1 + (n2 + (n3 + n4))) N = true) : LeftO p q loose Xt Yf Ya N g0 := fun w => by
  obtain ⟨⟨h, gs, d, k, os⟩, e, e'⟩ := Option.map_eq_some_iff.mp (open_ w)
  obtain ⟨rfl, rfl, rfl, rfl⟩ : h = H₀ w.params ∧ gs = gs₀ ∧ d = d₀ ∧ k = k₀ := by simpa using e'
  obtain ⟨z1, z2, z3⟩ : _ ∧ _ ∧ _ := by simpa only [Prod.mk.injEq] using size w
  obtain ⟨T, r, hs, ht, hl⟩ := topLook_some (congrFun (big1 w) os)
  obtain ⟨l1, m1, m2, m3⟩ : _ ∧ _ ∧ _ ∧ _ := by simpa only [Prod.mk.injEq] using hl
  obtain ⟨T', r', hs', ht', m4⟩ := topLook_some (congrFun (big2 w) os)
  obtain ⟨T'', r'', hs'', ht'', l3⟩ := topLook_some (congrFun (big3 w) os)
  obtain rfl : T = T' := by rw [hs] at hs'; simpa using hs'
  obtain rfl : T = T'' := by rw [hs] at hs''; simpa using hs''
  obtain rfl : r = r' := by rw [ht] at ht'; simpa using ht'
  obtain rfl : r = r'' := by rw [ht] at ht''; simpa using ht''
  have l2 : openSeen q loose (importedModules p.main.body) Xt g0 r = openGood q loose := Prod.ext m1 (Prod.ext m2 (Prod.ext m3 m4))
  have a := piece_app (rest := []) (segRun_of hs) (piece_nil ht)
  rw [List.append_nil] at a
  have run := go_top (pre w os) (piece_block (block w os) a)
  have run := topRun_mono (N - (n1 + (n2 + (n3 + n4)))) _ _ _ _ run
  rw [show n1 + (n2 + (n3 + n4)) + (N - (n1 + (n2 + (n3 + n4)))) = N by have := Nat.le_of_ble_eq_true le; omega] at run
  have t : topFrom treeTable p w N ⟨H₀ w.params, gs, d, k, os⟩ = some r := by
    unfold topFrom
    dsimp only
    rw [z1, z2, z3, run]
    show (match staticsOk (importedModules p.main.body) (H₀ w.params) r.heap && namesBound p r.heap && gensDone r && laidKept (H₀ w.params) r.heap with | true => _ | false => _) = _
    rw [l1]
  unfold openEnds
  rw [e]
  show (topFrom treeTable p w N _).map _ = _
  rw [t]
  exact congrArg some (Prod.ext l2 l3)
noncomputable abbrev PP : Program := PySem.Challenge.rw_rh0165_01.row.toRowW.1
noncomputable def stAt (i : Nat) : Stmt := (PP.main.body[i]?).getD (.Pass default)
noncomputable def inAt (i j : Nat) : Stmt := match stAt i with | .ClassDef _ _ _ b _ _ _ _ _ _ _ => (b[j]?).getD (.Pass default) | _ => .Pass default
def fnParts : Stmt → Arguments × List Stmt × Scope
  | .FunctionDef _ a b _ _ _ s _ _ _ => (a, b, s)
  | _ => (⟨[], [], none, [], [], none, []⟩, [], { kind := .function, names := [], isGenerator := false, isCoroutine := false })
abbrev sv (x : String) (t : Tok) : Value := .str (Str.ofString x) t
abbrev ev (P : Params) (x : String) (t : Tok) (v : Value) : DictEntry := ⟨PyData.keyHash P (Str.ofString x), .str (Str.ofString x) t, v⟩
abbrev mkFn (bl : Addr) (name qual : String) (g : Addr) (dV kV doc pm : Value) (an : Option Addr) (cd ct : Value) (a : Arguments) (b : List Stmt) (sc : Scope) (src : Stmt) (_ : fnParts src = (a, b, sc)) : Obj :=
  ⟨.type "function", none, .func { name := Str.ofString name, qualname := Str.ofString qual, params := a, body := .stmts b, scope := sc, globals := g, closure := [], defaults := dV, kwdefaults := kV, doc, pyModule := pm, annotations := an, code := cd, closureTuple := ct, builtins := bl }, #[]⟩
noncomputable def KK : Params → Frag := fun P =>
  ((nat_lit 2), (.mk .none none (.dict #[(ev P "type.__subclasses__.Exception.0" 313 (.int 74 0)), (ev P "type.__subclasses__.Exception.n" 314 (.int 1 0))] 2) #[])) ::
  ((nat_lit 3), (.mk (.type "dict") none (.dict #[(ev P "__name__" 165 (sv "law_rh0165_01" 1008)), (ev P "__doc__" 166 .none), (ev P "__package__" 167 .none), (ev P "__loader__" 168 (.builtin "__main__.__loader__#opaque")), (ev P "__spec__" 169 .none), (ev P "__annotations__" 170 (.ref 6)), (ev P "__builtins__" 171 (.ref 4)), (ev P "__file__" 173 (sv "/claim/cut.py" 172)), (ev P "__cached__" 174 .none), (ev P "_wall" 193 (.ref 21)), (ev P "T_NONE" 198 (.int (Neg.neg 1) 197)), (ev P "T_NIL" 200 (.int 0 199)), (ev P "T_BOOLEAN" 202 (.int 1 201)), (ev P "T_LIGHT" 204 (.int 2 203)), (ev P "T_NUMBER" 206 (.int 3 205)), (ev P "T_STRING" 208 (.int 4 207)), (ev P "T_TABLE" 210 (.int 5 209)), (ev P "T_USERDATA" 212 (.int 7 211)), (ev P "HASH_MASK" 214 (.int 4294967295 213)), (ev P "Limits" 285 (.ref 53)), (ev P "LuaError" 316 (.ref 74)), (ev P "HeapObject" 349 (.ref 94)), (ev P "LightValue" 378 (.ref 115)), (ev P "is_number" 385 (.ref 126)), (ev P "type_of" 392 (.ref 133)), (ev P "is_collectable" 399 (.ref 140)), (ev P "raw_equal" 408 (.ref 147)), (ev P "string_hash" 418 (.ref 154)), (ev P "log2" 426 (.ref 161)), (ev P "ceil_log2" 433 (.ref 168)), (ev P "SIZE_USERDATA" 437 (.int 5 436)), (ev P "Userdata" 468 (.ref 185)), (ev P "Global" 513 (.ref 211)), (ev P "MAX_BITS" 517 (.int 26 516)), (ev P "MAX_ARRAY" 520 (.int 67108864 519)), (ev P "MAX_INT" 526 (.int 2147483645 525)), (ev P "MOST_SLOTS" 530 (.int 4194304 529)), (ev P "MOST_PLACES" 534 (.int 1048576 533)), (ev P "BASE_SIZE" 536 (.int 56 535)), (ev P "SLOT_SIZE" 538 (.int 16 537)), (ev P "NODE_SIZE" 540 (.int 32 539)), (ev P "DeadKey" 569 (.ref 232)), (ev P "Node" 607 (.ref 260)), (ev P "array_index" 614 (.ref 271)), (ev P "compute_sizes" 627 (.ref 278)), (ev P "count_key" 636 (.ref 285)), (ev P "Table" 948 (.ref 491)), (ev P "get_metatable" 958 (.ref 500)), (ev P "set_metatable" 967 (.ref 507)), (ev P "tm_by_value" 977 (.ref 514)), (ev P "length_tm" 985 (.ref 521)), (ev P "binary_tm" 996 (.ref 528)), (ev P "called_top" 1007 (.ref 535)), (ev P "_law_next" 1018 (.ref 542)), (ev P "_law_meta" 1029 (.ref 549)), (ev P "_law_asked_right" 1042 (.ref 556)), (ev P "law" 1061 (.ref 563))] 57) #[])) ::
  ((nat_lit 20), (.mk (.type "code") none (.fields #[(sv "_wall" 187), (sv "_wall" 188), (sv "/claim/cut.py" 189), (.int 1 0), (.int 1 0), (.int 0 0), (.int 0 0), (.int 3 0), (.ref 15), (.bool true), (.int 181 0), (.ref 16), .none, (.ref 17), (.ref 18), (.ref 19), (.int 191 0), (.int 1 0), (sv "/claim/cut.py" 192)]) #[])) ::
  ((nat_lit 21), (mkFn 0 "_wall" "_wall" 3 .none .none .none (sv "__main__" 164) none (.ref 20) .none _ _ _ (stAt 0) (by conv => lhs; whnf))) ::
  ((nat_lit 29), (.mk (.type "tuple") none (.seq #[(.int 64 227), (.int 250 228), (.int 60 229), (.int 200 230), (.int 40 231), (.int 200 232), (.int 2000 233), (.int 50 234), (.int 1000000000 235), (.int 1000000 236)] 0) #[])) ::
  ((nat_lit 35), (.mk (.type "code") none (.fields #[(sv "__init__" 237), (sv "Limits.__init__" 238), (sv "/claim/cut.py" 239), (.int 16 0), (.int 11 0), (.int 0 0), (.int 0 0), (.int 3 0), (.ref 30), (.bool true), (.int 181 0), (.ref 31), .none, (.ref 32), (.ref 33), (.ref 34), (.int 251 0), (.int 16 0), (sv "/claim/cut.py" 252)]) #[])) ::
  ((nat_lit 36), (mkFn 0 "__init__" "Limits.__init__" 3 (.ref 29) .none .none (sv "lua.values" 194) none (.ref 35) .none _ _ _ (inAt 11 0) (by conv => lhs; whnf))) ::
  ((nat_lit 42), (.mk (.type "code") none (.fields #[(sv "greatest" 254), (sv "Limits.greatest" 255), (sv "/claim/cut.py" 256), (.int 28 0), (.int 1 0), (.int 0 0), (.int 0 0), (.int 3 0), (.ref 37), (.bool true), (.int 181 0), (.ref 38), .none, (.ref 39), (.ref 40), (.ref 41), (.int 258 0), (.int 28 0), (sv "/claim/cut.py" 259)]) #[])) ::
  ((nat_lit 43), (mkFn 0 "greatest" "Limits.greatest" 3 .none .none .none (sv "lua.values" 194) none (.ref 42) .none _ _ _ (inAt 11 1) (by conv => lhs; whnf))) ::
  ((nat_lit 49), (.mk (.type "code") none (.fields #[(sv "least" 261), (sv "Limits.least" 262), (sv "/claim/cut.py" 263), (.int 31 0), (.int 1 0), (.int 0 0), (.int 0 0), (.int 3 0), (.ref 44), (.bool true), (.int 181 0), (.ref 45), .none, (.ref 46), (.ref 47), (.ref 48), (.int 265 0), (.int 31 0), (sv "/claim/cut.py" 266)]) #[])) ::
  ((nat_lit 50), (mkFn 0 "least" "Limits.least" 3 .none .none .none (sv "lua.values" 194) none (.ref 49) .none _ _ _ (inAt 11 2) (by conv => lhs; whnf))) ::
  ((nat_lit 51), (.mk (.type "tuple") none (.seq #[(sv "ccalls" 268), (sv "flush" 269), (sv "frames" 270), (sv "local_names" 271), (sv "registers" 272), (sv "stack" 273), (sv "steps" 274), (sv "text" 275), (sv "upvalues" 276), (sv "width" 277)] 0) #[])) ::
  ((nat_lit 52), (.mk (.type "dict") none (.dict #[(ev P "__module__" 222 (sv "lua.values" 194)), (ev P "__firstlineno__" 226 (.int 14 225)), (ev P "__init__" 253 (.ref 36)), (ev P "greatest" 260 (.ref 43)), (ev P "least" 267 (.ref 50)), (ev P "__static_attributes__" 278 (.ref 51)), (ev P "__dict__" 280 (.ref 54)), (ev P "__weakref__" 282 (.ref 55)), (ev P "__doc__" 283 .none)] 4) #[])) ::
  ((nat_lit 53), (.mk (.type "type") none (.cls (.mk (Str.ofString "Limits") [(.type "object")] [(.ref 53), (.type "object")] 52 (Str.ofString "Limits") true [] [] false none false)) #[none, none, (some (sv "Limits" 215)), (some (sv "Limits" 223)), (some (.builtin "object.__new__")), (some (.bool true))])) ::
  ((nat_lit 54), (.mk (.type "getset_descriptor") none (.fields #[(sv "__dict__" 279), (.ref 53), (.builtin "function.__dict__"), (.builtin "function.__dict__#set")]) #[])) ::
  ((nat_lit 55), (.mk (.type "getset_descriptor") none (.fields #[(sv "__weakref__" 281), (.ref 53), (.builtin "ExceptionGroup.__weakref__"), .none]) #[])) ::
  ((nat_lit 58), (.mk (.type "tuple") none (.seq #[(.type "Exception")] 0) #[])) ::
  ((nat_lit 70), (.mk (.type "code") none (.fields #[(sv "__init__" 298), (sv "LuaError.__init__" 299), (sv "/claim/cut.py" 300), (.int 35 0), (.int 2 0), (.int 0 0), (.int 0 0), (.int 3 0), (.ref 65), (.bool true), (.int 181 0), (.ref 66), .none, (.ref 67), (.ref 68), (.ref 69), (.int 303 0), (.int 35 0), (sv "/claim/cut.py" 304)]) #[])) ::
  ((nat_lit 71), (mkFn 0 "__init__" "LuaError.__init__" 3 .none .none .none (sv "lua.values" 194) none (.ref 70) .none _ _ _ (inAt 12 0) (by conv => lhs; whnf))) ::
  ((nat_lit 72), (.mk (.type "tuple") none (.seq #[(sv "is_in_handler" 306), (sv "trace" 307), (sv "value" 308)] 0) #[])) ::
  ((nat_lit 73), (.mk (.type "dict") none (.dict #[(ev P "__module__" 293 (sv "lua.values" 194)), (ev P "__firstlineno__" 297 (.int 33 296)), (ev P "__init__" 305 (.ref 71)), (ev P "__static_attributes__" 309 (.ref 72)), (ev P "__weakref__" 311 (.ref 75)), (ev P "__doc__" 312 .none)] 3) #[])) ::
  ((nat_lit 74), (.mk (.type "type") none (.cls (.mk (Str.ofString "LuaError") [(.type "Exception")] [(.ref 74), (.type "Exception"), (.type "BaseException"), (.type "object")] 73 (Str.ofString "LuaError") true [] [] false none false)) #[(some (.ref 58)), none, (some (sv "LuaError" 286)), (some (sv "LuaError" 294)), (some (.builtin "Exception.__new__")), (some (.bool true))])) ::
  ((nat_lit 75), (.mk (.type "getset_descriptor") none (.fields #[(sv "__weakref__" 310), (.ref 74), (.builtin "ExceptionGroup.__weakref__"), .none]) #[])) ::
  ((nat_lit 90), (.mk (.type "code") none (.fields #[(sv "__init__" 330), (sv "HeapObject.__init__" 331), (sv "/claim/cut.py" 332), (.int 42 0), (.int 3 0), (.int 0 0), (.int 0 0), (.int 3 0), (.ref 85), (.bool true), (.int 181 0), (.ref 86), .none, (.ref 87), (.ref 88), (.ref 89), (.int 336 0), (.int 42 0), (sv "/claim/cut.py" 337)]) #[])) ::
  ((nat_lit 91), (mkFn 0 "__init__" "HeapObject.__init__" 3 .none .none .none (sv "lua.values" 194) none (.ref 90) .none _ _ _ (inAt 13 1) (by conv => lhs; whnf))) ::
  ((nat_lit 92), (.mk (.type "tuple") none (.seq #[(sv "mark" 339), (sv "number" 340), (sv "size" 341)] 0) #[])) ::
  ((nat_lit 93), (.mk (.type "dict") none (.dict #[(ev P "__module__" 324 (sv "lua.values" 194)), (ev P "__firstlineno__" 328 (.int 39 327)), (ev P "kind" 329 (.int (Neg.neg 1) 197)), (ev P "__init__" 338 (.ref 91)), (ev P "__static_attributes__" 342 (.ref 92)), (ev P "__dict__" 344 (.ref 95)), (ev P "__weakref__" 346 (.ref 96)), (ev P "__doc__" 347 .none)] 4) #[])) ::
  ((nat_lit 94), (.mk (.type "type") none (.cls (.mk (Str.ofString "HeapObject") [(.type "object")] [(.ref 94), (.type "object")] 93 (Str.ofString "HeapObject") true [] [(.ref 185), (.ref 491)] false none false)) #[none, none, (some (sv "HeapObject" 317)), (some (sv "HeapObject" 325)), (some (.builtin "object.__new__")), (some (.bool true))])) ::
  ((nat_lit 95), (.mk (.type "getset_descriptor") none (.fields #[(sv "__dict__" 343), (.ref 94), (.builtin "function.__dict__"), (.builtin "function.__dict__#set")]) #[])) ::
  ((nat_lit 96), (.mk (.type "getset_descriptor") none (.fields #[(sv "__weakref__" 345), (.ref 94), (.builtin "ExceptionGroup.__weakref__"), .none]) #[])) ::
  ((nat_lit 111), (.mk (.type "code") none (.fields #[(sv "__init__" 362), (sv "LightValue.__init__" 363), (sv "/claim/cut.py" 364), (.int 48 0), (.int 2 0), (.int 0 0), (.int 0 0), (.int 3 0), (.ref 106), (.bool true), (.int 181 0), (.ref 107), .none, (.ref 108), (.ref 109), (.ref 110), (.int 367 0), (.int 48 0), (sv "/claim/cut.py" 368)]) #[])) ::
  ((nat_lit 112), (mkFn 0 "__init__" "LightValue.__init__" 3 .none .none .none (sv "lua.values" 194) none (.ref 111) .none _ _ _ (inAt 14 0) (by conv => lhs; whnf))) ::
  ((nat_lit 113), (.mk (.type "tuple") none (.seq #[(sv "number" 370)] 0) #[])) ::
  ((nat_lit 114), (.mk (.type "dict") none (.dict #[(ev P "__module__" 357 (sv "lua.values" 194)), (ev P "__firstlineno__" 361 (.int 46 360)), (ev P "__init__" 369 (.ref 112)), (ev P "__static_attributes__" 371 (.ref 113)), (ev P "__dict__" 373 (.ref 116)), (ev P "__weakref__" 375 (.ref 117)), (ev P "__doc__" 376 .none)] 4) #[])) ::
  ((nat_lit 115), (.mk (.type "type") none (.cls (.mk (Str.ofString "LightValue") [(.type "object")] [(.ref 115), (.type "object")] 114 (Str.ofString "LightValue") true [] [] false none false)) #[none, none, (some (sv "LightValue" 350)), (some (sv "LightValue" 358)), (some (.builtin "object.__new__")), (some (.bool true))])) ::
  ((nat_lit 116), (.mk (.type "getset_descriptor") none (.fields #[(sv "__dict__" 372), (.ref 115), (.builtin "function.__dict__"), (.builtin "function.__dict__#set")]) #[])) ::
  ((nat_lit 117), (.mk (.type "getset_descriptor") none (.fields #[(sv "__weakref__" 374), (.ref 115), (.builtin "ExceptionGroup.__weakref__"), .none]) #[])) ::
  ((nat_lit 125), (.mk (.type "code") none (.fields #[(sv "is_number" 379), (sv "is_number" 380), (sv "/claim/cut.py" 381), (.int 50 0), (.int 1 0), (.int 0 0), (.int 0 0), (.int 3 0), (.ref 120), (.bool true), (.int 181 0), (.ref 121), .none, (.ref 122), (.ref 123), (.ref 124), (.int 383 0), (.int 50 0), (sv "/claim/cut.py" 384)]) #[])) ::
  ((nat_lit 126), (mkFn 0 "is_number" "is_number" 3 .none .none .none (sv "lua.values" 194) none (.ref 125) .none _ _ _ (stAt 15) (by conv => lhs; whnf))) ::
  ((nat_lit 132), (.mk (.type "code") none (.fields #[(sv "type_of" 386), (sv "type_of" 387), (sv "/claim/cut.py" 388), (.int 52 0), (.int 1 0), (.int 0 0), (.int 0 0), (.int 3 0), (.ref 127), (.bool true), (.int 181 0), (.ref 128), .none, (.ref 129), (.ref 130), (.ref 131), (.int 390 0), (.int 52 0), (sv "/claim/cut.py" 391)]) #[])) ::
  ((nat_lit 133), (mkFn 0 "type_of" "type_of" 3 .none .none .none (sv "lua.values" 194) none (.ref 132) .none _ _ _ (stAt 16) (by conv => lhs; whnf))) ::
  ((nat_lit 139), (.mk (.type "code") none (.fields #[(sv "is_collectable" 393), (sv "is_collectable" 394), (sv "/claim/cut.py" 395), (.int 66 0), (.int 1 0), (.int 0 0), (.int 0 0), (.int 3 0), (.ref 134), (.bool true), (.int 181 0), (.ref 135), .none, (.ref 136), (.ref 137), (.ref 138), (.int 397 0), (.int 66 0), (sv "/claim/cut.py" 398)]) #[])) ::
  ((nat_lit 140), (mkFn 0 "is_collectable" "is_collectable" 3 .none .none .none (sv "lua.values" 194) none (.ref 139) .none _ _ _ (stAt 17) (by conv => lhs; whnf))) ::
  ((nat_lit 146), (.mk (.type "code") none (.fields #[(sv "raw_equal" 400), (sv "raw_equal" 401), (sv "/claim/cut.py" 402), (.int 68 0), (.int 2 0), (.int 0 0), (.int 0 0), (.int 3 0), (.ref 141), (.bool true), (.int 181 0), (.ref 142), .none, (.ref 143), (.ref 144), (.ref 145), (.int 406 0), (.int 68 0), (sv "/claim/cut.py" 407)]) #[])) ::
  ((nat_lit 147), (mkFn 0 "raw_equal" "raw_equal" 3 .none .none .none (sv "lua.values" 194) none (.ref 146) .none _ _ _ (stAt 18) (by conv => lhs; whnf))) ::
  ((nat_lit 153), (.mk (.type "code") none (.fields #[(sv "string_hash" 409), (sv "string_hash" 410), (sv "/claim/cut.py" 411), (.int 77 0), (.int 1 0), (.int 0 0), (.int 0 0), (.int 3 0), (.ref 148), (.bool true), (.int 181 0), (.ref 149), .none, (.ref 150), (.ref 151), (.ref 152), (.int 416 0), (.int 77 0), (sv "/claim/cut.py" 417)]) #[])) ::
  ((nat_lit 154), (mkFn 0 "string_hash" "string_hash" 3 .none .none .none (sv "lua.values" 194) none (.ref 153) .none _ _ _ (stAt 19) (by conv => lhs; whnf))) ::
  ((nat_lit 160), (.mk (.type "code") none (.fields #[(sv "log2" 419), (sv "log2" 420), (sv "/claim/cut.py" 421), (.int 84 0), (.int 1 0), (.int 0 0), (.int 0 0), (.int 3 0), (.ref 155), (.bool true), (.int 181 0), (.ref 156), .none, (.ref 157), (.ref 158), (.ref 159), (.int 424 0), (.int 84 0), (sv "/claim/cut.py" 425)]) #[])) ::
  ((nat_lit 161), (mkFn 0 "log2" "log2" 3 .none .none .none (sv "lua.values" 194) none (.ref 160) .none _ _ _ (stAt 20) (by conv => lhs; whnf))) ::
  ((nat_lit 167), (.mk (.type "code") none (.fields #[(sv "ceil_log2" 427), (sv "ceil_log2" 428), (sv "/claim/cut.py" 429), (.int 90 0), (.int 1 0), (.int 0 0), (.int 0 0), (.int 3 0), (.ref 162), (.bool true), (.int 181 0), (.ref 163), .none, (.ref 164), (.ref 165), (.ref 166), (.int 431 0), (.int 90 0), (sv "/claim/cut.py" 432)]) #[])) ::
  ((nat_lit 168), (mkFn 0 "ceil_log2" "ceil_log2" 3 .none .none .none (sv "lua.values" 194) none (.ref 167) .none _ _ _ (stAt 21) (by conv => lhs; whnf))) ::
  ((nat_lit 169), (.mk (.type "tuple") none (.seq #[(.ref 94)] 0) #[])) ::
  ((nat_lit 181), (.mk (.type "code") none (.fields #[(sv "__init__" 451), (sv "Userdata.__init__" 452), (sv "/claim/cut.py" 453), (.int 97 0), (.int 4 0), (.int 0 0), (.int 0 0), (.int 3 0), (.ref 176), (.bool true), (.int 181 0), (.ref 177), .none, (.ref 178), (.ref 179), (.ref 180), (.int 458 0), (.int 97 0), (sv "/claim/cut.py" 459)]) #[])) ::
  ((nat_lit 182), (mkFn 0 "__init__" "Userdata.__init__" 3 .none .none .none (sv "lua.objects" 434) none (.ref 181) .none _ _ _ (inAt 24 1) (by conv => lhs; whnf))) ::
  ((nat_lit 183), (.mk (.type "tuple") none (.seq #[(sv "env" 461), (sv "is_finalized" 462), (sv "meta" 463), (sv "value" 464)] 0) #[])) ::
  ((nat_lit 184), (.mk (.type "dict") none (.dict #[(ev P "__module__" 445 (sv "lua.objects" 434)), (ev P "__firstlineno__" 449 (.int 94 448)), (ev P "kind" 450 (.int 7 211)), (ev P "__init__" 460 (.ref 182)), (ev P "__static_attributes__" 465 (.ref 183)), (ev P "__doc__" 466 .none)] 2) #[])) ::
  ((nat_lit 185), (.mk (.type "type") none (.cls (.mk (Str.ofString "Userdata") [(.ref 94)] [(.ref 185), (.ref 94), (.type "object")] 184 (Str.ofString "Userdata") true [] [] false none false)) #[(some (.ref 169)), none, (some (sv "Userdata" 438)), (some (sv "Userdata" 446)), (some (.builtin "object.__new__")), (some (.bool true))])) ::
  ((nat_lit 200), (.mk (.type "code") none (.fields #[(sv "__init__" 481), (sv "Global.__init__" 482), (sv "/claim/cut.py" 483), (.int 105 0), (.int 2 0), (.int 0 0), (.int 0 0), (.int 3 0), (.ref 195), (.bool true), (.int 181 0), (.ref 196), .none, (.ref 197), (.ref 198), (.ref 199), (.int 486 0), (.int 105 0), (sv "/claim/cut.py" 487)]) #[])) ::
  ((nat_lit 201), (mkFn 0 "__init__" "Global.__init__" 3 .none .none .none (sv "lua.objects" 434) none (.ref 200) .none _ _ _ (inAt 25 0) (by conv => lhs; whnf))) ::
  ((nat_lit 207), (.mk (.type "code") none (.fields #[(sv "next_number" 489), (sv "Global.next_number" 490), (sv "/claim/cut.py" 491), (.int 117 0), (.int 1 0), (.int 0 0), (.int 0 0), (.int 3 0), (.ref 202), (.bool true), (.int 181 0), (.ref 203), .none, (.ref 204), (.ref 205), (.ref 206), (.int 493 0), (.int 117 0), (sv "/claim/cut.py" 494)]) #[])) ::
  ((nat_lit 208), (mkFn 0 "next_number" "Global.next_number" 3 .none .none .none (sv "lua.objects" 434) none (.ref 207) .none _ _ _ (inAt 25 1) (by conv => lhs; whnf))) ::
  ((nat_lit 209), (.mk (.type "tuple") none (.seq #[(sv "heap" 496), (sv "last_number" 497), (sv "limits" 498), (sv "main" 499), (sv "metas" 500), (sv "out" 501), (sv "panic" 502), (sv "registry" 503), (sv "steps" 504), (sv "vm" 505)] 0) #[])) ::
  ((nat_lit 210), (.mk (.type "dict") none (.dict #[(ev P "__module__" 476 (sv "lua.objects" 434)), (ev P "__firstlineno__" 480 (.int 103 479)), (ev P "__init__" 488 (.ref 201)), (ev P "next_number" 495 (.ref 208)), (ev P "__static_attributes__" 506 (.ref 209)), (ev P "__dict__" 508 (.ref 212)), (ev P "__weakref__" 510 (.ref 213)), (ev P "__doc__" 511 .none)] 4) #[])) ::
  ((nat_lit 211), (.mk (.type "type") none (.cls (.mk (Str.ofString "Global") [(.type "object")] [(.ref 211), (.type "object")] 210 (Str.ofString "Global") true [] [] false none false)) #[none, none, (some (sv "Global" 469)), (some (sv "Global" 477)), (some (.builtin "object.__new__")), (some (.bool true))])) ::
  ((nat_lit 212), (.mk (.type "getset_descriptor") none (.fields #[(sv "__dict__" 507), (.ref 211), (.builtin "function.__dict__"), (.builtin "function.__dict__#set")]) #[])) ::
  ((nat_lit 213), (.mk (.type "getset_descriptor") none (.fields #[(sv "__weakref__" 509), (.ref 211), (.builtin "ExceptionGroup.__weakref__"), .none]) #[])) ::
  ((nat_lit 228), (.mk (.type "code") none (.fields #[(sv "__init__" 553), (sv "DeadKey.__init__" 554), (sv "/claim/cut.py" 555), (.int 130 0), (.int 2 0), (.int 0 0), (.int 0 0), (.int 3 0), (.ref 223), (.bool true), (.int 181 0), (.ref 224), .none, (.ref 225), (.ref 226), (.ref 227), (.int 558 0), (.int 130 0), (sv "/claim/cut.py" 559)]) #[])) ::
  ((nat_lit 229), (mkFn 0 "__init__" "DeadKey.__init__" 3 .none .none .none (sv "lua.tables" 514) none (.ref 228) .none _ _ _ (inAt 35 0) (by conv => lhs; whnf))) ::
  ((nat_lit 230), (.mk (.type "tuple") none (.seq #[(sv "number" 561)] 0) #[])) ::
  ((nat_lit 231), (.mk (.type "dict") none (.dict #[(ev P "__module__" 548 (sv "lua.tables" 514)), (ev P "__firstlineno__" 552 (.int 128 551)), (ev P "__init__" 560 (.ref 229)), (ev P "__static_attributes__" 562 (.ref 230)), (ev P "__dict__" 564 (.ref 233)), (ev P "__weakref__" 566 (.ref 234)), (ev P "__doc__" 567 .none)] 4) #[])) ::
  ((nat_lit 232), (.mk (.type "type") none (.cls (.mk (Str.ofString "DeadKey") [(.type "object")] [(.ref 232), (.type "object")] 231 (Str.ofString "DeadKey") true [] [] false none false)) #[none, none, (some (sv "DeadKey" 541)), (some (sv "DeadKey" 549)), (some (.builtin "object.__new__")), (some (.bool true))])) ::
  ((nat_lit 233), (.mk (.type "getset_descriptor") none (.fields #[(sv "__dict__" 563), (.ref 232), (.builtin "function.__dict__"), (.builtin "function.__dict__#set")]) #[])) ::
  ((nat_lit 234), (.mk (.type "getset_descriptor") none (.fields #[(sv "__weakref__" 565), (.ref 232), (.builtin "ExceptionGroup.__weakref__"), .none]) #[])) ::
  ((nat_lit 249), (.mk (.type "code") none (.fields #[(sv "__init__" 582), (sv "Node.__init__" 583), (sv "/claim/cut.py" 584), (.int 134 0), (.int 1 0), (.int 0 0), (.int 0 0), (.int 3 0), (.ref 244), (.bool true), (.int 181 0), (.ref 245), .none, (.ref 246), (.ref 247), (.ref 248), (.int 586 0), (.int 134 0), (sv "/claim/cut.py" 587)]) #[])) ::
  ((nat_lit 250), (mkFn 0 "__init__" "Node.__init__" 3 .none .none .none (sv "lua.tables" 514) none (.ref 249) .none _ _ _ (inAt 36 0) (by conv => lhs; whnf))) ::
  ((nat_lit 256), (.mk (.type "code") none (.fields #[(sv "moved_to" 589), (sv "Node.moved_to" 590), (sv "/claim/cut.py" 591), (.int 139 0), (.int 2 0), (.int 0 0), (.int 0 0), (.int 3 0), (.ref 251), (.bool true), (.int 181 0), (.ref 252), .none, (.ref 253), (.ref 254), (.ref 255), (.int 594 0), (.int 139 0), (sv "/claim/cut.py" 595)]) #[])) ::
  ((nat_lit 257), (mkFn 0 "moved_to" "Node.moved_to" 3 .none .none .none (sv "lua.tables" 514) none (.ref 256) .none _ _ _ (inAt 36 1) (by conv => lhs; whnf))) ::
  ((nat_lit 258), (.mk (.type "tuple") none (.seq #[(sv "key" 597), (sv "next" 598), (sv "value" 599)] 0) #[])) ::
  ((nat_lit 259), (.mk (.type "dict") none (.dict #[(ev P "__module__" 577 (sv "lua.tables" 514)), (ev P "__firstlineno__" 581 (.int 132 580)), (ev P "__init__" 588 (.ref 250)), (ev P "moved_to" 596 (.ref 257)), (ev P "__static_attributes__" 600 (.ref 258)), (ev P "__dict__" 602 (.ref 261)), (ev P "__weakref__" 604 (.ref 262)), (ev P "__doc__" 605 .none)] 4) #[])) ::
  ((nat_lit 260), (.mk (.type "type") none (.cls (.mk (Str.ofString "Node") [(.type "object")] [(.ref 260), (.type "object")] 259 (Str.ofString "Node") true [] [] false none false)) #[none, none, (some (sv "Node" 570)), (some (sv "Node" 578)), (some (.builtin "object.__new__")), (some (.bool true))])) ::
  ((nat_lit 261), (.mk (.type "getset_descriptor") none (.fields #[(sv "__dict__" 601), (.ref 260), (.builtin "function.__dict__"), (.builtin "function.__dict__#set")]) #[])) ::
  ((nat_lit 262), (.mk (.type "getset_descriptor") none (.fields #[(sv "__weakref__" 603), (.ref 260), (.builtin "ExceptionGroup.__weakref__"), .none]) #[])) ::
  ((nat_lit 270), (.mk (.type "code") none (.fields #[(sv "array_index" 608), (sv "array_index" 609), (sv "/claim/cut.py" 610), (.int 143 0), (.int 1 0), (.int 0 0), (.int 0 0), (.int 3 0), (.ref 265), (.bool true), (.int 181 0), (.ref 266), .none, (.ref 267), (.ref 268), (.ref 269), (.int 612 0), (.int 143 0), (sv "/claim/cut.py" 613)]) #[])) ::
  ((nat_lit 271), (mkFn 0 "array_index" "array_index" 3 .none .none .none (sv "lua.tables" 514) none (.ref 270) .none _ _ _ (stAt 37) (by conv => lhs; whnf))) ::
  ((nat_lit 277), (.mk (.type "code") none (.fields #[(sv "compute_sizes" 615), (sv "compute_sizes" 616), (sv "/claim/cut.py" 617), (.int 145 0), (.int 2 0), (.int 0 0), (.int 0 0), (.int 3 0), (.ref 272), (.bool true), (.int 181 0), (.ref 273), .none, (.ref 274), (.ref 275), (.ref 276), (.int 625 0), (.int 145 0), (sv "/claim/cut.py" 626)]) #[])) ::
  ((nat_lit 278), (mkFn 0 "compute_sizes" "compute_sizes" 3 .none .none .none (sv "lua.tables" 514) none (.ref 277) .none _ _ _ (stAt 38) (by conv => lhs; whnf))) ::
  ((nat_lit 284), (.mk (.type "code") none (.fields #[(sv "count_key" 628), (sv "count_key" 629), (sv "/claim/cut.py" 630), (.int 162 0), (.int 2 0), (.int 0 0), (.int 0 0), (.int 3 0), (.ref 279), (.bool true), (.int 181 0), (.ref 280), .none, (.ref 281), (.ref 282), (.ref 283), (.int 634 0), (.int 162 0), (sv "/claim/cut.py" 635)]) #[])) ::
  ((nat_lit 285), (mkFn 0 "count_key" "count_key" 3 .none .none .none (sv "lua.tables" 514) none (.ref 284) .none _ _ _ (stAt 39) (by conv => lhs; whnf))) ::
  ((nat_lit 286), (.mk (.type "tuple") none (.seq #[(.ref 94)] 0) #[])) ::
  ((nat_lit 293), (.mk (.type "tuple") none (.seq #[(.int 0 650), (.int 0 651), (.int 0 652)] 0) #[])) ::
  ((nat_lit 299), (.mk (.type "code") none (.fields #[(sv "__init__" 653), (sv "Table.__init__" 654), (sv "/claim/cut.py" 655), (.int 171 0), (.int 4 0), (.int 0 0), (.int 0 0), (.int 3 0), (.ref 294), (.bool true), (.int 181 0), (.ref 295), .none, (.ref 296), (.ref 297), (.ref 298), (.int 660 0), (.int 171 0), (sv "/claim/cut.py" 661)]) #[])) ::
  ((nat_lit 300), (mkFn 0 "__init__" "Table.__init__" 3 (.ref 293) .none .none (sv "lua.tables" 514) none (.ref 299) .none _ _ _ (inAt 40 1) (by conv => lhs; whnf))) ::
  ((nat_lit 306), (.mk (.type "code") none (.fields #[(sv "main_position" 663), (sv "Table.main_position" 664), (sv "/claim/cut.py" 665), (.int 183 0), (.int 2 0), (.int 0 0), (.int 0 0), (.int 3 0), (.ref 301), (.bool true), (.int 181 0), (.ref 302), .none, (.ref 303), (.ref 304), (.ref 305), (.int 669 0), (.int 183 0), (sv "/claim/cut.py" 670)]) #[])) ::
  ((nat_lit 307), (mkFn 0 "main_position" "Table.main_position" 3 .none .none .none (sv "lua.tables" 514) none (.ref 306) .none _ _ _ (inAt 40 2) (by conv => lhs; whnf))) ::
  ((nat_lit 313), (.mk (.type "code") none (.fields #[(sv "find_node" 672), (sv "Table.find_node" 673), (sv "/claim/cut.py" 674), (.int 193 0), (.int 2 0), (.int 0 0), (.int 0 0), (.int 3 0), (.ref 308), (.bool true), (.int 181 0), (.ref 309), .none, (.ref 310), (.ref 311), (.ref 312), (.int 678 0), (.int 193 0), (sv "/claim/cut.py" 679)]) #[])) ::
  ((nat_lit 314), (mkFn 0 "find_node" "Table.find_node" 3 .none .none .none (sv "lua.tables" 514) none (.ref 313) .none _ _ _ (inAt 40 3) (by conv => lhs; whnf))) ::
  ((nat_lit 320), (.mk (.type "code") none (.fields #[(sv "free_position" 681), (sv "Table.free_position" 682), (sv "/claim/cut.py" 683), (.int 203 0), (.int 1 0), (.int 0 0), (.int 0 0), (.int 3 0), (.ref 315), (.bool true), (.int 181 0), (.ref 316), .none, (.ref 317), (.ref 318), (.ref 319), (.int 685 0), (.int 203 0), (sv "/claim/cut.py" 686)]) #[])) ::
  ((nat_lit 321), (mkFn 0 "free_position" "Table.free_position" 3 .none .none .none (sv "lua.tables" 514) none (.ref 320) .none _ _ _ (inAt 40 4) (by conv => lhs; whnf))) ::
  ((nat_lit 327), (.mk (.type "code") none (.fields #[(sv "get_int" 688), (sv "Table.get_int" 689), (sv "/claim/cut.py" 690), (.int 210 0), (.int 2 0), (.int 0 0), (.int 0 0), (.int 3 0), (.ref 322), (.bool true), (.int 181 0), (.ref 323), .none, (.ref 324), (.ref 325), (.ref 326), (.int 694 0), (.int 210 0), (sv "/claim/cut.py" 695)]) #[])) ::
  ((nat_lit 328), (mkFn 0 "get_int" "Table.get_int" 3 .none .none .none (sv "lua.tables" 514) none (.ref 327) .none _ _ _ (inAt 40 5) (by conv => lhs; whnf))) ::
  ((nat_lit 334), (.mk (.type "code") none (.fields #[(sv "get_text" 697), (sv "Table.get_text" 698), (sv "/claim/cut.py" 699), (.int 216 0), (.int 2 0), (.int 0 0), (.int 0 0), (.int 3 0), (.ref 329), (.bool true), (.int 181 0), (.ref 330), .none, (.ref 331), (.ref 332), (.ref 333), (.int 703 0), (.int 216 0), (sv "/claim/cut.py" 704)]) #[])) ::
  ((nat_lit 335), (mkFn 0 "get_text" "Table.get_text" 3 .none .none .none (sv "lua.tables" 514) none (.ref 334) .none _ _ _ (inAt 40 6) (by conv => lhs; whnf))) ::
  ((nat_lit 341), (.mk (.type "code") none (.fields #[(sv "get" 706), (sv "Table.get" 707), (sv "/claim/cut.py" 708), (.int 220 0), (.int 2 0), (.int 0 0), (.int 0 0), (.int 3 0), (.ref 336), (.bool true), (.int 181 0), (.ref 337), .none, (.ref 338), (.ref 339), (.ref 340), (.int 712 0), (.int 220 0), (sv "/claim/cut.py" 713)]) #[])) ::
  ((nat_lit 342), (mkFn 0 "get" "Table.get" 3 .none .none .none (sv "lua.tables" 514) none (.ref 341) .none _ _ _ (inAt 40 7) (by conv => lhs; whnf))) ::
  ((nat_lit 348), (.mk (.type "code") none (.fields #[(sv "set" 715), (sv "Table.set" 716), (sv "/claim/cut.py" 717), (.int 228 0), (.int 4 0), (.int 0 0), (.int 0 0), (.int 3 0), (.ref 343), (.bool true), (.int 181 0), (.ref 344), .none, (.ref 345), (.ref 346), (.ref 347), (.int 722 0), (.int 228 0), (sv "/claim/cut.py" 723)]) #[])) ::
  ((nat_lit 349), (mkFn 0 "set" "Table.set" 3 .none .none .none (sv "lua.tables" 514) none (.ref 348) .none _ _ _ (inAt 40 8) (by conv => lhs; whnf))) ::
  ((nat_lit 355), (.mk (.type "code") none (.fields #[(sv "set_int" 725), (sv "Table.set_int" 726), (sv "/claim/cut.py" 727), (.int 231 0), (.int 4 0), (.int 0 0), (.int 0 0), (.int 3 0), (.ref 350), (.bool true), (.int 181 0), (.ref 351), .none, (.ref 352), (.ref 353), (.ref 354), (.int 732 0), (.int 231 0), (sv "/claim/cut.py" 733)]) #[])) ::
  ((nat_lit 356), (mkFn 0 "set_int" "Table.set_int" 3 .none .none .none (sv "lua.tables" 514) none (.ref 355) .none _ _ _ (inAt 40 9) (by conv => lhs; whnf))) ::
  ((nat_lit 362), (.mk (.type "code") none (.fields #[(sv "set_text" 735), (sv "Table.set_text" 736), (sv "/claim/cut.py" 737), (.int 234 0), (.int 4 0), (.int 0 0), (.int 0 0), (.int 3 0), (.ref 357), (.bool true), (.int 181 0), (.ref 358), .none, (.ref 359), (.ref 360), (.ref 361), (.int 742 0), (.int 234 0), (sv "/claim/cut.py" 743)]) #[])) ::
  ((nat_lit 363), (mkFn 0 "set_text" "Table.set_text" 3 .none .none .none (sv "lua.tables" 514) none (.ref 362) .none _ _ _ (inAt 40 10) (by conv => lhs; whnf))) ::
  ((nat_lit 369), (.mk (.type "code") none (.fields #[(sv "put" 745), (sv "Table.put" 746), (sv "/claim/cut.py" 747), (.int 238 0), (.int 4 0), (.int 0 0), (.int 0 0), (.int 3 0), (.ref 364), (.bool true), (.int 181 0), (.ref 365), .none, (.ref 366), (.ref 367), (.ref 368), (.int 754 0), (.int 238 0), (sv "/claim/cut.py" 755)]) #[])) ::
  ((nat_lit 370), (mkFn 0 "put" "Table.put" 3 .none .none .none (sv "lua.tables" 514) none (.ref 369) .none _ _ _ (inAt 40 11) (by conv => lhs; whnf))) ::
  ((nat_lit 376), (.mk (.type "code") none (.fields #[(sv "new_key" 757), (sv "Table.new_key" 758), (sv "/claim/cut.py" 759), (.int 251 0), (.int 4 0), (.int 0 0), (.int 0 0), (.int 3 0), (.ref 371), (.bool true), (.int 181 0), (.ref 372), .none, (.ref 373), (.ref 374), (.ref 375), (.int 768 0), (.int 251 0), (sv "/claim/cut.py" 769)]) #[])) ::
  ((nat_lit 377), (mkFn 0 "new_key" "Table.new_key" 3 .none .none .none (sv "lua.tables" 514) none (.ref 376) .none _ _ _ (inAt 40 12) (by conv => lhs; whnf))) ::
  ((nat_lit 383), (.mk (.type "code") none (.fields #[(sv "put_again" 771), (sv "Table.put_again" 772), (sv "/claim/cut.py" 773), (.int 281 0), (.int 4 0), (.int 0 0), (.int 0 0), (.int 3 0), (.ref 378), (.bool true), (.int 181 0), (.ref 379), .none, (.ref 380), (.ref 381), (.ref 382), (.int 779 0), (.int 281 0), (sv "/claim/cut.py" 780)]) #[])) ::
  ((nat_lit 384), (mkFn 0 "put_again" "Table.put_again" 3 .none .none .none (sv "lua.tables" 514) none (.ref 383) .none _ _ _ (inAt 40 13) (by conv => lhs; whnf))) ::
  ((nat_lit 390), (.mk (.type "code") none (.fields #[(sv "count_array" 782), (sv "Table.count_array" 783), (sv "/claim/cut.py" 784), (.int 288 0), (.int 2 0), (.int 0 0), (.int 0 0), (.int 3 0), (.ref 385), (.bool true), (.int 181 0), (.ref 386), .none, (.ref 387), (.ref 388), (.ref 389), (.int 793 0), (.int 288 0), (sv "/claim/cut.py" 794)]) #[])) ::
  ((nat_lit 391), (mkFn 0 "count_array" "Table.count_array" 3 .none .none .none (sv "lua.tables" 514) none (.ref 390) .none _ _ _ (inAt 40 14) (by conv => lhs; whnf))) ::
  ((nat_lit 397), (.mk (.type "code") none (.fields #[(sv "count_nodes" 796), (sv "Table.count_nodes" 797), (sv "/claim/cut.py" 798), (.int 306 0), (.int 2 0), (.int 0 0), (.int 0 0), (.int 3 0), (.ref 392), (.bool true), (.int 181 0), (.ref 393), .none, (.ref 394), (.ref 395), (.ref 396), (.int 804 0), (.int 306 0), (sv "/claim/cut.py" 805)]) #[])) ::
  ((nat_lit 398), (mkFn 0 "count_nodes" "Table.count_nodes" 3 .none .none .none (sv "lua.tables" 514) none (.ref 397) .none _ _ _ (inAt 40 15) (by conv => lhs; whnf))) ::
  ((nat_lit 404), (.mk (.type "code") none (.fields #[(sv "rehash" 807), (sv "Table.rehash" 808), (sv "/claim/cut.py" 809), (.int 315 0), (.int 3 0), (.int 0 0), (.int 0 0), (.int 3 0), (.ref 399), (.bool true), (.int 181 0), (.ref 400), .none, (.ref 401), (.ref 402), (.ref 403), (.int 820 0), (.int 315 0), (sv "/claim/cut.py" 821)]) #[])) ::
  ((nat_lit 405), (mkFn 0 "rehash" "Table.rehash" 3 .none .none .none (sv "lua.tables" 514) none (.ref 404) .none _ _ _ (inAt 40 16) (by conv => lhs; whnf))) ::
  ((nat_lit 406), (.mk (.type "tuple") none (.seq #[.none] 0) #[])) ::
  ((nat_lit 412), (.mk (.type "code") none (.fields #[(sv "resize" 823), (sv "Table.resize" 824), (sv "/claim/cut.py" 825), (.int 325 0), (.int 4 0), (.int 0 0), (.int 0 0), (.int 3 0), (.ref 407), (.bool true), (.int 181 0), (.ref 408), .none, (.ref 409), (.ref 410), (.ref 411), (.int 835 0), (.int 325 0), (sv "/claim/cut.py" 836)]) #[])) ::
  ((nat_lit 413), (mkFn 0 "resize" "Table.resize" 3 (.ref 406) .none .none (sv "lua.tables" 514) none (.ref 412) .none _ _ _ (inAt 40 17) (by conv => lhs; whnf))) ::
  ((nat_lit 419), (.mk (.type "code") none (.fields #[(sv "put_back" 838), (sv "Table.put_back" 839), (sv "/claim/cut.py" 840), (.int 342 0), (.int 4 0), (.int 0 0), (.int 0 0), (.int 3 0), (.ref 414), (.bool true), (.int 181 0), (.ref 415), .none, (.ref 416), (.ref 417), (.ref 418), (.int 846 0), (.int 342 0), (sv "/claim/cut.py" 847)]) #[])) ::
  ((nat_lit 420), (mkFn 0 "put_back" "Table.put_back" 3 .none .none .none (sv "lua.tables" 514) none (.ref 419) .none _ _ _ (inAt 40 18) (by conv => lhs; whnf))) ::
  ((nat_lit 424), (.mk (.type "code") none (.fields #[(sv "make_nodes" 849), (sv "Table.make_nodes" 850), (sv "/claim/cut.py" 851), (.int 349 0), (.int 2 0), (.int 0 0), (.int 0 0), (.int 3 0), (.ref 421), (.bool true), (.int 181 0), (.ref 422), .none, .none, .none, (.ref 423), (.int 852 0), (.int 349 0), (sv "/claim/cut.py" 853)]) #[])) ::
  ((nat_lit 425), (mkFn 0 "make_nodes" "Table.make_nodes" 3 .none .none .none (sv "lua.tables" 514) none (.ref 424) .none _ _ _ (inAt 40 19) (by conv => lhs; whnf))) ::
  ((nat_lit 431), (.mk (.type "code") none (.fields #[(sv "resize_array" 855), (sv "Table.resize_array" 856), (sv "/claim/cut.py" 857), (.int 359 0), (.int 3 0), (.int 0 0), (.int 0 0), (.int 3 0), (.ref 426), (.bool true), (.int 181 0), (.ref 427), .none, (.ref 428), (.ref 429), (.ref 430), (.int 861 0), (.int 359 0), (sv "/claim/cut.py" 862)]) #[])) ::
  ((nat_lit 432), (mkFn 0 "resize_array" "Table.resize_array" 3 .none .none .none (sv "lua.tables" 514) none (.ref 431) .none _ _ _ (inAt 40 20) (by conv => lhs; whnf))) ::
  ((nat_lit 438), (.mk (.type "code") none (.fields #[(sv "weigh" 864), (sv "Table.weigh" 865), (sv "/claim/cut.py" 866), (.int 362 0), (.int 2 0), (.int 0 0), (.int 0 0), (.int 3 0), (.ref 433), (.bool true), (.int 181 0), (.ref 434), .none, (.ref 435), (.ref 436), (.ref 437), (.int 869 0), (.int 362 0), (sv "/claim/cut.py" 870)]) #[])) ::
  ((nat_lit 439), (mkFn 0 "weigh" "Table.weigh" 3 .none .none .none (sv "lua.tables" 514) none (.ref 438) .none _ _ _ (inAt 40 21) (by conv => lhs; whnf))) ::
  ((nat_lit 445), (.mk (.type "code") none (.fields #[(sv "find_index" 872), (sv "Table.find_index" 873), (sv "/claim/cut.py" 874), (.int 368 0), (.int 2 0), (.int 0 0), (.int 0 0), (.int 3 0), (.ref 440), (.bool true), (.int 181 0), (.ref 441), .none, (.ref 442), (.ref 443), (.ref 444), (.int 880 0), (.int 368 0), (sv "/claim/cut.py" 881)]) #[])) ::
  ((nat_lit 446), (mkFn 0 "find_index" "Table.find_index" 3 .none .none .none (sv "lua.tables" 514) none (.ref 445) .none _ _ _ (inAt 40 22) (by conv => lhs; whnf))) ::
  ((nat_lit 452), (.mk (.type "code") none (.fields #[(sv "next" 883), (sv "Table.next" 884), (sv "/claim/cut.py" 885), (.int 384 0), (.int 2 0), (.int 0 0), (.int 0 0), (.int 3 0), (.ref 447), (.bool true), (.int 181 0), (.ref 448), .none, (.ref 449), (.ref 450), (.ref 451), (.int 891 0), (.int 384 0), (sv "/claim/cut.py" 892)]) #[])) ::
  ((nat_lit 453), (mkFn 0 "next" "Table.next" 3 .none .none .none (sv "lua.tables" 514) none (.ref 452) .none _ _ _ (inAt 40 23) (by conv => lhs; whnf))) ::
  ((nat_lit 459), (.mk (.type "code") none (.fields #[(sv "length" 894), (sv "Table.length" 895), (sv "/claim/cut.py" 896), (.int 398 0), (.int 1 0), (.int 0 0), (.int 0 0), (.int 3 0), (.ref 454), (.bool true), (.int 181 0), (.ref 455), .none, (.ref 456), (.ref 457), (.ref 458), (.int 901 0), (.int 398 0), (sv "/claim/cut.py" 902)]) #[])) ::
  ((nat_lit 460), (mkFn 0 "length" "Table.length" 3 .none .none .none (sv "lua.tables" 514) none (.ref 459) .none _ _ _ (inAt 40 24) (by conv => lhs; whnf))) ::
  ((nat_lit 466), (.mk (.type "code") none (.fields #[(sv "unbound_search" 904), (sv "Table.unbound_search" 905), (sv "/claim/cut.py" 906), (.int 413 0), (.int 2 0), (.int 0 0), (.int 0 0), (.int 3 0), (.ref 461), (.bool true), (.int 181 0), (.ref 462), .none, (.ref 463), (.ref 464), (.ref 465), (.int 912 0), (.int 413 0), (sv "/claim/cut.py" 913)]) #[])) ::
  ((nat_lit 467), (mkFn 0 "unbound_search" "Table.unbound_search" 3 .none .none .none (sv "lua.tables" 514) none (.ref 466) .none _ _ _ (inAt 40 25) (by conv => lhs; whnf))) ::
  ((nat_lit 473), (.mk (.type "code") none (.fields #[(sv "bury" 915), (sv "Table.bury" 916), (sv "/claim/cut.py" 917), (.int 432 0), (.int 2 0), (.int 0 0), (.int 0 0), (.int 3 0), (.ref 468), (.bool true), (.int 181 0), (.ref 469), .none, (.ref 470), (.ref 471), (.ref 472), (.int 920 0), (.int 432 0), (sv "/claim/cut.py" 921)]) #[])) ::
  ((nat_lit 474), (mkFn 0 "bury" "Table.bury" 3 .none .none .none (sv "lua.tables" 514) none (.ref 473) .none _ _ _ (inAt 40 26) (by conv => lhs; whnf))) ::
  ((nat_lit 480), (.mk (.type "code") none (.fields #[(sv "bury_empty" 923), (sv "Table.bury_empty" 924), (sv "/claim/cut.py" 925), (.int 435 0), (.int 1 0), (.int 0 0), (.int 0 0), (.int 3 0), (.ref 475), (.bool true), (.int 181 0), (.ref 476), .none, (.ref 477), (.ref 478), (.ref 479), (.int 927 0), (.int 435 0), (sv "/claim/cut.py" 928)]) #[])) ::
  ((nat_lit 481), (mkFn 0 "bury_empty" "Table.bury_empty" 3 .none .none .none (sv "lua.tables" 514) none (.ref 480) .none _ _ _ (inAt 40 27) (by conv => lhs; whnf))) ::
  ((nat_lit 487), (.mk (.type "code") none (.fields #[(sv "entries" 930), (sv "Table.entries" 931), (sv "/claim/cut.py" 932), (.int 438 0), (.int 1 0), (.int 0 0), (.int 0 0), (.int 3 0), (.ref 482), (.bool true), (.int 181 0), (.ref 483), .none, (.ref 484), (.ref 485), (.ref 486), (.int 934 0), (.int 438 0), (sv "/claim/cut.py" 935)]) #[])) ::
  ((nat_lit 488), (mkFn 0 "entries" "Table.entries" 3 .none .none .none (sv "lua.tables" 514) none (.ref 487) .none _ _ _ (inAt 40 28) (by conv => lhs; whnf))) ::
  ((nat_lit 489), (.mk (.type "tuple") none (.seq #[(sv "array" 937), (sv "flags" 938), (sv "free" 939), (sv "log_nodes" 940), (sv "meta" 941), (sv "nodes" 942), (sv "size" 943), (sv "weak" 944)] 0) #[])) ::
  ((nat_lit 490), (.mk (.type "dict") none (.dict #[(ev P "__module__" 644 (sv "lua.tables" 514)), (ev P "__firstlineno__" 648 (.int 168 647)), (ev P "kind" 649 (.int 5 209)), (ev P "__init__" 662 (.ref 300)), (ev P "main_position" 671 (.ref 307)), (ev P "find_node" 680 (.ref 314)), (ev P "free_position" 687 (.ref 321)), (ev P "get_int" 696 (.ref 328)), (ev P "get_text" 705 (.ref 335)), (ev P "get" 714 (.ref 342)), (ev P "set" 724 (.ref 349)), (ev P "set_int" 734 (.ref 356)), (ev P "set_text" 744 (.ref 363)), (ev P "put" 756 (.ref 370)), (ev P "new_key" 770 (.ref 377)), (ev P "put_again" 781 (.ref 384)), (ev P "count_array" 795 (.ref 391)), (ev P "count_nodes" 806 (.ref 398)), (ev P "rehash" 822 (.ref 405)), (ev P "resize" 837 (.ref 413)), (ev P "put_back" 848 (.ref 420)), (ev P "make_nodes" 854 (.ref 425)), (ev P "resize_array" 863 (.ref 432)), (ev P "weigh" 871 (.ref 439)), (ev P "find_index" 882 (.ref 446)), (ev P "next" 893 (.ref 453)), (ev P "length" 903 (.ref 460)), (ev P "unbound_search" 914 (.ref 467)), (ev P "bury" 922 (.ref 474)), (ev P "bury_empty" 929 (.ref 481)), (ev P "entries" 936 (.ref 488)), (ev P "__static_attributes__" 945 (.ref 489)), (ev P "__doc__" 946 .none)] 2) #[])) ::
  ((nat_lit 491), (.mk (.type "type") none (.cls (.mk (Str.ofString "Table") [(.ref 94)] [(.ref 491), (.ref 94), (.type "object")] 490 (Str.ofString "Table") true [] [] false none false)) #[(some (.ref 286)), none, (some (sv "Table" 637)), (some (sv "Table" 645)), (some (.builtin "object.__new__")), (some (.bool true))])) ::
  ((nat_lit 499), (.mk (.type "code") none (.fields #[(sv "get_metatable" 951), (sv "get_metatable" 952), (sv "/claim/cut.py" 953), (.int 441 0), (.int 2 0), (.int 0 0), (.int 0 0), (.int 3 0), (.ref 494), (.bool true), (.int 181 0), (.ref 495), .none, (.ref 496), (.ref 497), (.ref 498), (.int 956 0), (.int 441 0), (sv "/claim/cut.py" 957)]) #[])) ::
  ((nat_lit 500), (mkFn 0 "get_metatable" "get_metatable" 3 .none .none .none (sv "lua.meta" 949) none (.ref 499) .none _ _ _ (stAt 42) (by conv => lhs; whnf))) ::
  ((nat_lit 506), (.mk (.type "code") none (.fields #[(sv "set_metatable" 959), (sv "set_metatable" 960), (sv "/claim/cut.py" 961), (.int 445 0), (.int 3 0), (.int 0 0), (.int 0 0), (.int 3 0), (.ref 501), (.bool true), (.int 181 0), (.ref 502), .none, (.ref 503), (.ref 504), (.ref 505), (.int 965 0), (.int 445 0), (sv "/claim/cut.py" 966)]) #[])) ::
  ((nat_lit 507), (mkFn 0 "set_metatable" "set_metatable" 3 .none .none .none (sv "lua.meta" 949) none (.ref 506) .none _ _ _ (stAt 43) (by conv => lhs; whnf))) ::
  ((nat_lit 513), (.mk (.type "code") none (.fields #[(sv "tm_by_value" 968), (sv "tm_by_value" 969), (sv "/claim/cut.py" 970), (.int 458 0), (.int 3 0), (.int 0 0), (.int 0 0), (.int 3 0), (.ref 508), (.bool true), (.int 181 0), (.ref 509), .none, (.ref 510), (.ref 511), (.ref 512), (.int 975 0), (.int 458 0), (sv "/claim/cut.py" 976)]) #[])) ::
  ((nat_lit 514), (mkFn 0 "tm_by_value" "tm_by_value" 3 .none .none .none (sv "lua.meta" 949) none (.ref 513) .none _ _ _ (stAt 44) (by conv => lhs; whnf))) ::
  ((nat_lit 520), (.mk (.type "code") none (.fields #[(sv "length_tm" 978), (sv "length_tm" 979), (sv "/claim/cut.py" 980), (.int 463 0), (.int 2 0), (.int 0 0), (.int 0 0), (.int 3 0), (.ref 515), (.bool true), (.int 181 0), (.ref 516), .none, (.ref 517), (.ref 518), (.ref 519), (.int 983 0), (.int 463 0), (sv "/claim/cut.py" 984)]) #[])) ::
  ((nat_lit 521), (mkFn 0 "length_tm" "length_tm" 3 .none .none .none (sv "lua.meta" 949) none (.ref 520) .none _ _ _ (stAt 45) (by conv => lhs; whnf))) ::
  ((nat_lit 527), (.mk (.type "code") none (.fields #[(sv "binary_tm" 986), (sv "binary_tm" 987), (sv "/claim/cut.py" 988), (.int 465 0), (.int 4 0), (.int 0 0), (.int 0 0), (.int 3 0), (.ref 522), (.bool true), (.int 181 0), (.ref 523), .none, (.ref 524), (.ref 525), (.ref 526), (.int 994 0), (.int 465 0), (sv "/claim/cut.py" 995)]) #[])) ::
  ((nat_lit 528), (mkFn 0 "binary_tm" "binary_tm" 3 .none .none .none (sv "lua.meta" 949) none (.ref 527) .none _ _ _ (stAt 46) (by conv => lhs; whnf))) ::
  ((nat_lit 534), (.mk (.type "code") none (.fields #[(sv "called_top" 999), (sv "called_top" 1000), (sv "/claim/cut.py" 1001), (.int 471 0), (.int 3 0), (.int 0 0), (.int 0 0), (.int 3 0), (.ref 529), (.bool true), (.int 181 0), (.ref 530), .none, (.ref 531), (.ref 532), (.ref 533), (.int 1005 0), (.int 471 0), (sv "/claim/cut.py" 1006)]) #[])) ::
  ((nat_lit 535), (mkFn 0 "called_top" "called_top" 3 .none .none .none (sv "lua.adjust" 997) none (.ref 534) .none _ _ _ (stAt 48) (by conv => lhs; whnf))) ::
  ((nat_lit 541), (.mk (.type "code") none (.fields #[(sv "_law_next" 1010), (sv "_law_next" 1011), (sv "/claim/cut.py" 1012), (.int 474 0), (.int 2 0), (.int 0 0), (.int 0 0), (.int 3 0), (.ref 536), (.bool true), (.int 181 0), (.ref 537), .none, (.ref 538), (.ref 539), (.ref 540), (.int 1016 0), (.int 474 0), (sv "/claim/cut.py" 1017)]) #[])) ::
  ((nat_lit 542), (mkFn 0 "_law_next" "_law_next" 3 .none .none .none (sv "law_rh0165_01" 1008) none (.ref 541) .none _ _ _ (stAt 50) (by conv => lhs; whnf))) ::
  ((nat_lit 548), (.mk (.type "code") none (.fields #[(sv "_law_meta" 1019), (sv "_law_meta" 1020), (sv "/claim/cut.py" 1021), (.int 478 0), (.int 2 0), (.int 0 0), (.int 0 0), (.int 3 0), (.ref 543), (.bool true), (.int 181 0), (.ref 544), .none, (.ref 545), (.ref 546), (.ref 547), (.int 1027 0), (.int 478 0), (sv "/claim/cut.py" 1028)]) #[])) ::
  ((nat_lit 549), (mkFn 0 "_law_meta" "_law_meta" 3 .none .none .none (sv "law_rh0165_01" 1008) none (.ref 548) .none _ _ _ (stAt 51) (by conv => lhs; whnf))) ::
  ((nat_lit 555), (.mk (.type "code") none (.fields #[(sv "_law_asked_right" 1030), (sv "_law_asked_right" 1031), (sv "/claim/cut.py" 1032), (.int 489 0), (.int 3 0), (.int 0 0), (.int 0 0), (.int 3 0), (.ref 550), (.bool true), (.int 181 0), (.ref 551), .none, (.ref 552), (.ref 553), (.ref 554), (.int 1040 0), (.int 489 0), (sv "/claim/cut.py" 1041)]) #[])) ::
  ((nat_lit 556), (mkFn 0 "_law_asked_right" "_law_asked_right" 3 .none .none .none (sv "law_rh0165_01" 1008) none (.ref 555) .none _ _ _ (stAt 52) (by conv => lhs; whnf))) ::
  ((nat_lit 562), (.mk (.type "code") none (.fields #[(sv "law" 1043), (sv "law" 1044), (sv "/claim/cut.py" 1045), (.int 496 0), (.int 1 0), (.int 0 0), (.int 0 0), (.int 3 0), (.ref 557), (.bool true), (.int 181 0), (.ref 558), .none, (.ref 559), (.ref 560), (.ref 561), (.int 1059 0), (.int 496 0), (sv "/claim/cut.py" 1060)]) #[])) ::
  ((nat_lit 563), (mkFn 0 "law" "law" 3 .none .none .none (sv "law_rh0165_01" 1008) none (.ref 562) .none _ _ _ (stAt 53) (by conv => lhs; whnf))) :: []
noncomputable abbrev vwOf (p : Program) : Program := view p [0, 2, 3, 4, 5, 6, 7, 8, 9, 10, 11, 12, 13, 14, 15, 16, 17, 18, 19, 20, 21, 23, 24, 25, 27, 28, 29, 30, 31, 32, 33, 34, 35, 36, 37, 38, 39, 40, 42, 43, 44, 45, 46, 48, 50, 51, 52, 53]
noncomputable abbrev vw : Program := vwOf PP
def loose : List Str := [Str.ofString "HeapObject", Str.ofString "Userdata", Str.ofString "MAX_ARRAY", Str.ofString "MAX_INT", Str.ofString "MOST_SLOTS", Str.ofString "MOST_PLACES", Str.ofString "Table"]
def lv : List (Str × WData) := [(Str.ofString "MAX_ARRAY", WData.int 67108864), (Str.ofString "MAX_INT", WData.int 2147483645), (Str.ofString "MOST_SLOTS", WData.int 4194304), (Str.ofString "MOST_PLACES", WData.int 1048576)]
def addrs : List Addr := [2, 3, 20, 21, 29, 35, 36, 42, 43, 49, 50, 51, 52, 53, 54, 55, 58, 70, 71, 72, 73, 74, 75, 90, 91, 92, 93, 94, 95, 96, 111, 112, 113, 114, 115, 116, 117, 125, 126, 132, 133, 139, 140, 146, 147, 153, 154, 160, 161, 167, 168, 169, 181, 182, 183, 184, 185, 200, 201, 207, 208, 209, 210, 211, 212, 213, 228, 229, 230, 231, 232, 233, 234, 249, 250, 256, 257, 258, 259, 260, 261, 262, 270, 271, 277, 278, 284, 285, 286, 293, 299, 300, 306, 307, 313, 314, 320, 321, 327, 328, 334, 335, 341, 342, 348, 349, 355, 356, 362, 363, 369, 370, 376, 377, 383, 384, 390, 391, 397, 398, 404, 405, 406, 412, 413, 419, 420, 424, 425, 431, 432, 438, 439, 445, 446, 452, 453, 459, 460, 466, 467, 473, 474, 480, 481, 487, 488, 489, 490, 491, 499, 500, 506, 507, 513, 514, 520, 521, 527, 528, 534, 535, 541, 542, 548, 549, 555, 556, 562, 563]
theorem addrs_eq : ∀ P, addrs = (KK P).map (·.1) := fun _ => by kernel_rfl
def o11 (_ : Params) : Obj := { cls := .type "tuple", data := .seq #[] 0 }
def o12 (_ : Params) : Obj := { cls := .none, data := .fields #[] }
def o13 (_ : Params) : Obj := { cls := .type "code", data := .fields #[sv "<module>" 182, sv "<module>" 183, sv "/claim/cut.py" 184, .int 1 0, .int 0 0, .int 0 0, .int 0 0, .int 0 0, .ref 11, .bool false, .int 181 0, .ref 12, .none, .none, .none, .none, .int 185 0, .int 1 0, sv "/claim/cut.py" 186] }
def o14 (_ : Params) : Obj := { cls := .type "frame", data := .plain, slots := #[some (.ref 13), some (.ref 3), some (.ref 3), none, some (sv "__main__" 164), none, some (.ref 0)] }
noncomputable def T15 (P : Params) : BT :=
  .node (boot_o_0 P) (.node (boot_o_1 P) (.node (boot_o_3 P) (.node (boot_o_7 P) .nil .nil) (.node (o11 P) .nil .nil)) (.node (boot_o_5 P) (.node (boot_o_9 P) .nil .nil) (.node (o13 P) .nil .nil)))
    (.node (boot_o_2 P) (.node (boot_o_4 P) (.node (boot_o_8 P) .nil .nil) (.node (o12 P) .nil .nil)) (.node (boot_o_6 P) (.node (boot_o_10 P) .nil .nil) (.node (o14 P) .nil .nil)))
noncomputable abbrev envOf1 (p : Program) : Env := { scope := p.main.scope, locals := mainNs, globals := mainNs, cells := [], code := .ref 13, frame := some 14 }
abbrev q0 : Pos := ⟨0, 0, 0, 0⟩
noncomputable abbrev cOf (p : Program) : Code := .body (behindTheImports p) (envOf1 p)
noncomputable def Sa (w : World) (os : OsState) : Shared := ⟨⟨#[boot_o_0 w.params, boot_o_1 w.params, boot_o_2 w.params, boot_o_3 w.params, boot_o_4 w.params, boot_o_5 w.params, boot_o_6 w.params, boot_o_7 w.params, boot_o_8 w.params, boot_o_9 w.params, boot_o_10 w.params, o11 w.params, o12 w.params, o13 w.params, o14 w.params], {}⟩, #[], {}, 187, os⟩
noncomputable def S15 (w : World) (os : OsState) : SharedT := ⟨T15 w.params, 15, {}, #[], {}, 187, os⟩
noncomputable abbrev HK : Hook := kHook KK addrs addrs_eq
def Big1 (p : Program) (R : WRecords) (w : World) : Prop :=
  (fun os => topLook (segRunT treeTable p w 11 (some (.ref 6)) 1) (topRun treeTable p w 11 (some (.ref 6))) 4110 2 [topFrame q0]
    (fun s => ((staticsOk (importedModules p.main.body) (boot_heap w.params) s.heap && namesBound p s.heap && gensDone s && laidKept (boot_heap w.params) s.heap), (openSeen (vwOf p) loose (importedModules p.main.body) (fun s => xlAt (vwOf p) lv s && recOk R s) true s).1, (openSeen (vwOf p) loose (importedModules p.main.body) (fun s => xlAt (vwOf p) lv s && recOk R s) true s).2.1, (openSeen (vwOf p) loose (importedModules p.main.body) (fun s => xlAt (vwOf p) lv s && recOk R s) true s).2.2.1))
    (S15 w os) (piecesOf (behindTheImports p) (envOf1 p) (cOf p) q0 [topFrame q0])) = fun _ => some (cOf p, ⟨496, 0, 515, 45⟩, some (true, expectedOf (vwOf p), bltViewBooted, true))
def Big2 (p : Program) (R : WRecords) (w : World) : Prop :=
  (fun os => topLook (segRunT treeTable p w 11 (some (.ref 6)) 1) (topRun treeTable p w 11 (some (.ref 6))) 4110 2 [topFrame q0]
    (fun s => (openSeen (vwOf p) loose (importedModules p.main.body) (fun s => xlAt (vwOf p) lv s && recOk R s) true s).2.2.2)
    (S15 w os) (piecesOf (behindTheImports p) (envOf1 p) (cOf p) q0 [topFrame q0])) = fun _ => some (cOf p, ⟨496, 0, 515, 45⟩, some (true, pinGoodD (drecsOf (vwOf p)), plainGoodE (vwOf p) (looseW (vwOf p) loose), plainGoodD (vwOf p) loose, wideGood (vwOf p), clsGoodW (vwOf p) loose))
def Big3 (p : Program) (w : World) : Prop :=
  (fun os => topLook (segRunT treeTable p w 11 (some (.ref 6)) 1) (topRun treeTable p w 11 (some (.ref 6))) 4110 2 [topFrame q0]
    (fun s => addrs.map s.heap.get?)
    (S15 w os) (piecesOf (behindTheImports p) (envOf1 p) (cOf p) q0 [topFrame q0])) = fun _ => some (cOf p, ⟨496, 0, 515, 45⟩, some ((KK w.params).map fun x => some x.2))
theorem said : PySem.Challenge.rw_rh0165_01.wellSaid = true := by
  rw [PySem.W.Fast.te9446332074065402090]
  kernel_rfl
theorem of_row (h : PySem.Challenge.rw_rh0165_01.row.wellSaid = true → PySem.Challenge.rw_rh0165_01.row.Holds) : PySem.Challenge.rw_rh0165_01.Holds := holds_law said h
theorem big1 (w : World) : Big1 PP PySem.Challenge.rw_rh0165_01.row.records w := by
  unfold Big1
  rw [PySem.W.Fast.te10110043849684766642, PySem.W.Fast.te14364793385576792824, PySem.W.Fast.te14082659384304107361, PySem.W.Fast.te5923862056798008813, PySem.W.Fast.te4187177175401517315]
  kernel_rfl
theorem big2 (w : World) : Big2 PP PySem.Challenge.rw_rh0165_01.row.records w := by
  unfold Big2
  rw [PySem.W.Fast.te10110043849684766642, PySem.W.Fast.te14364793385576792824, PySem.W.Fast.te14082659384304107361, PySem.W.Fast.te5923862056798008813, PySem.W.Fast.te4187177175401517315]
  kernel_rfl
theorem big3 (w : World) : Big3 PP w := by
  unfold Big3
  rw [PySem.W.Fast.te10110043849684766642, PySem.W.Fast.te14364793385576792824, PySem.W.Fast.te14082659384304107361]
  kernel_rfl
theorem left_top : LeftO PP vw loose (fun s => xlAt vw lv s && recOk PySem.Challenge.rw_rh0165_01.row.records s) (Hook.obs HK) (Hook.val HK) 8344 :=
  left_of (p := PP) (q := vw) (loose := loose) (Xt := fun s => xlAt vw lv s && recOk PySem.Challenge.rw_rh0165_01.row.records s) (Yf := Hook.obs HK) (Ya := Hook.val HK) (g0 := true) (H₀ := boot_heap) (b := behindTheImports PP) (env := envOf1 PP) (q0 := q0) (p1 := q0) (p2 := ⟨496, 0, 515, 45⟩) (Sa := Sa) (T0 := S15) (n1 := 12) (n2 := 1) (n3 := 4110) (n4 := 2) (m₀ := 11) (ann := some (.ref 6))
    (boot_open (by kernel_rfl) (by decide) (fun s => by kernel_rfl))
    (fun w => by kernel_rfl)
    (fun w os => by kernel_rfl)
    (fun w os => by kernel_rfl)
    big1
    big2
    big3
    (by decide)


theorem wk_around {α : Type} {M : Model} {A : Around} {t : Sem α} {Q : α → Shared → Prop} {E : Value → Shared → Prop} {s : Shared} (d u : Nat)
    (h : wpAny M { A with depth := d, units := u } t Q E s) (hd : A.depth ≤ d) (hu : A.units ≤ u) : wpAny M A t Q E s :=
  fun Γ p hΓ => h Γ p ⟨hΓ.1, Nat.le_trans hΓ.2.1 hd, hΓ.2.2.1, hΓ.2.2.2.1, Nat.le_trans hΓ.2.2.2.2 hu⟩

/-- where a contract is called: a def's frame on top, room below -/
abbrev topA (d u : Nat) (gd : Option (List Code)) (cn : Str) (cs : Scope) (L a : Addr) (ccd : Value) (cl : List (Str × Addr)) (outer : List Env) : Around :=
  ktrTop d u gd cn cs L a ccd cl outer

theorem use_ctr {α : Type} {M : Model} {A : Around} {t : Sem α} {Q : α → Shared → Prop} {E : Value → Shared → Prop} {s : Shared} {d u : Nat} {gd : Option (List Code)} {cn : Str} {cs : Scope} {L a : Addr} {ccd : Value} {cl : List (Str × Addr)} {outer : List Env}
    (h : wpAny M (topA d u gd cn cs L a ccd cl outer) t Q E s) (e : ({ A with depth := d, units := u } : Around) = topA d u gd cn cs L a ccd cl outer) (hd : A.depth ≤ d) (hu : A.units ≤ u) : wpAny M A t Q E s := wk_around d u (e ▸ h) hd hu

section
variable {α : Type}
theorem lk_hit {x : Str} {v : α} {l : List (Str × α)} : List.lookup x ((x, v) :: l) = some v := by rw [List.lookup_cons]; simp
theorem lk_miss {x z : Str} {u v : α} {l : List (Str × α)} (h : (x == z) = false) (r : List.lookup x l = some v) : List.lookup x ((z, u) :: l) = some v := by
  rw [List.lookup_cons, h]; exact r
theorem lki_hit {x : Str} {v : α} {r : Option α} : (if x = x then some v else r) = some v := if_pos rfl
theorem lki_miss {x z : Str} {u v : α} {r : Option α} (h : (x == z) = false) (q : r = some v) : (if x = z then some u else r) = some v := by
  rw [if_neg (by intro e; rw [e] at h; simp at h)]; exact q
end

section
variable {M : Model} {A : Around} {E : Value → Shared → Prop} {s : Shared} {K : Frag} {h₀ : Heap} {L a : Addr} {m mg mb : Str → Option Value} {cn : Str} {cs : Scope} {ccd : Value} {cl : List (Str × Addr)} {p : Program} {loose : List Str}
  {x : Str} {pos : Pos} {v : Value} {news : List (Addr × Obj)}
theorem nm_L {Q : Value → Shared → Prop} (F : Fr h₀ L s.heap m) (hx : (envX cn cs L a ccd cl).kindOf x = some .local) (hk : cs.kind = .function) (hd : (x == ("__debug__" : Str)) = false) (hv : m x = some v) (h : Q v s) :
    wpAny M A (eval (.Name x pos) (envX cn cs L a ccd cl)) Q E s := nameX_L F hv h hk hx hd
theorem nm_K {Q : Value → Shared → Prop} (F : Fr h₀ L s.heap m) (hx : (envX cn cs L a ccd cl).kindOf x = some .globalImplicit) (hk : cs.kind = .function) (hd : (x == ("__debug__" : Str)) = false) (X : K.In h₀) (T : TopRead p loose mg mb h₀) (e : nsIn K mainGlobals x = some (some v)) (h : Q v s) :
    wpAny M A (eval (.Name x pos) (envX cn cs L a ccd cl)) Q E s := nameX_K F X T e h hk hx hd
theorem nm_B {Q : Value → Shared → Prop} (F : Fr h₀ L s.heap m) (hx : (envX cn cs L a ccd cl).kindOf x = some .globalImplicit) (hk : cs.kind = .function) (hd : (x == ("__debug__" : Str)) = false) (X : K.In h₀) (T : TopRead p loose mg mb h₀) (e : nsIn K mainGlobals x = some none) (hv : bootBuiltins x = some v) (hn : x ≠ "__name__") (h : Q v s) :
    wpAny M A (eval (.Name x pos) (envX cn cs L a ccd cl)) Q E s := nameX_B F X T e hv hn h hk hx hd
theorem st_L {Q : Unit → Shared → Prop} (F : Fr h₀ L s.heap m) (N : News h₀ L s.heap news) (hx : (envX cn cs L a ccd cl).kindOf x = some .local) (hk : cs.kind = .function)
    (h : ∀ h' tk, Fr h₀ L h' (fun y => if y = x then some v else m y) → News h₀ L h' news → Q () { s with heap := h', toks := tk }) :
    wpAny M A (storeName (envX cn cs L a ccd cl) x v) Q E s := storeX_L F N (fun h' F' N' => h h' _ F' N') hk hx
end

section
variable {prog : Program} {w : World} {A₀ A : Around} {s : Shared} {base h₀ : Heap} {outer : List Env} {L : Addr} {m mg mb : Str → Option Value} {env : Env} {news : List (Addr × Obj)} {K : Frag} {p : Program} {loose : List Str} {mean : ExcName → Option Value}
  {R : Result → Shared → Prop} {name qual : Str} {params : Arguments} {body : List Stmt} {scope : Scope} {dV kV doc pm cdv ct oc : Value} {an od : Option Addr} {osl : Array (Option Value)} {f : Addr} {args : List Value}
/-- a def is entered by place; its frame's names stand in a written list -/
theorem enter_pos (B : Below A₀ base outer h₀) (F : Fr h₀ L s.heap m) (X₀ : K.In h₀) (N : News h₀ L s.heap news) (T : Top p loose mean mg mb h₀) (hA : A.frames = some (env :: outer)) (hf : env.frame = some L) (hke : env.scope.kind = .function)
    (ho : K.lookup f = some ⟨oc, od, .func (fnOf name qual params body scope dV kV doc pm an cdv ct), osl⟩) (hcd : codeIn K cdv qual = true) (hroom : A.depth < recursionLimit)
    (hbind : bindArgs (fnOf name qual params body scope dV kV doc pm an cdv ct) ⟨args, []⟩ = pure ((params.args.map (·.arg)).zip args))
    (hloc : (((params.args.map (·.arg)).zip args).all fun x => decide (scope.names.lookup x.1 = some .local)) = true)
    (hco : scope.isCoroutine = false) (hgen : scope.isGenerator = false) (hk : scope.kind = .function)
    (hcell : (scope.names.all fun x => match x.2 with | .cell => false | _ => true) = true)
    (h : ∀ g L' h₁ tk, Fr h₀ L g m → Fr g L' h₁ (fun y => ((params.args.map (·.arg)).zip args).reverse.lookup y) → News g L' h₁ news → Below A base (env :: outer) g → K.In g → Top p loose mean mg mb g →
      wpAny (model prog w) (A.deeper (envOf qual scope L' f cdv)) (execs body (envOf qual scope L' f cdv))
        (fun fl s' => LeaveK h₀ L m g R (match fl with | .ret v => v | _ => .none) s')
        (fun e s' => wpAny (model prog w) (A.deeper (envOf qual scope L' f cdv)) (leaving (envOf qual scope L' f cdv) e) (fun _ s'' => R (.error e) s'') (fun e' s'' => R (.error e') s'') s')
        { s with heap := h₁, toks := tk }) : codeAny (model prog w) A (.call (.ref f) ⟨args, []⟩) R s :=
  code_def B F X₀ N T hA hf hke ho hcd hroom (BindsTo.of_eq hbind) (locs hloc) (fun g L' h₁ FG F' N' B' X' T' => h g L' h₁ _ FG F' N' B' X' T') hco hgen hk
    (fun x hx e => by have := List.all_eq_true.mp hcell x hx; rw [e] at this; cases this)
/-- a def is entered with its binds written out (defaults among them), the last first -/
theorem enter_lit (rb : List (Str × Value)) (B : Below A₀ base outer h₀) (F : Fr h₀ L s.heap m) (X₀ : K.In h₀) (N : News h₀ L s.heap news) (T : Top p loose mean mg mb h₀) (hA : A.frames = some (env :: outer)) (hf : env.frame = some L) (hke : env.scope.kind = .function)
    (ho : K.lookup f = some ⟨oc, od, .func (fnOf name qual params body scope dV kV doc pm an cdv ct), osl⟩) (hcd : codeIn K cdv qual = true) (hroom : A.depth < recursionLimit)
    (hbind : BindsTo s (fnOf name qual params body scope dV kV doc pm an cdv ct) ⟨args, []⟩ rb.reverse)
    (hloc : (rb.all fun x => decide (scope.names.lookup x.1 = some .local)) = true)
    (hco : scope.isCoroutine = false) (hgen : scope.isGenerator = false) (hk : scope.kind = .function)
    (hcell : (scope.names.all fun x => match x.2 with | .cell => false | _ => true) = true)
    (h : ∀ g L' h₁ tk, Fr h₀ L g m → Fr g L' h₁ (fun y => rb.lookup y) → News g L' h₁ news → Below A base (env :: outer) g → K.In g → Top p loose mean mg mb g →
      wpAny (model prog w) (A.deeper (envOf qual scope L' f cdv)) (execs body (envOf qual scope L' f cdv))
        (fun fl s' => LeaveK h₀ L m g R (match fl with | .ret v => v | _ => .none) s')
        (fun e s' => wpAny (model prog w) (A.deeper (envOf qual scope L' f cdv)) (leaving (envOf qual scope L' f cdv) e) (fun _ s'' => R (.error e) s'') (fun e' s'' => R (.error e') s'') s')
        { s with heap := h₁, toks := tk }) : codeAny (model prog w) A (.call (.ref f) ⟨args, []⟩) R s :=
  code_def B F X₀ N T hA hf hke ho hcd hroom hbind (fun y hy => of_decide_eq_true (List.all_eq_true.mp hloc y (List.mem_reverse.mp hy)))
    (fun g L' h₁ FG F' N' B' X' T' => h g L' h₁ _ FG (by rw [List.reverse_reverse] at F'; exact F') N' B' X' T') hco hgen hk
    (fun x hx e => by have := List.all_eq_true.mp hcell x hx; rw [e] at this; cases this)
end

section
variable {prog : Program} {w : World} {A₀ A : Around} {s : Shared} {base h₀ : Heap} {outer : List Env} {L : Addr} {m mg mb : Str → Option Value} {env : Env} {news rest : List (Addr × Obj)} {K : Frag} {p : Program} {loose : List Str} {mean : ExcName → Option Value}
  {R : Result → Shared → Prop} {name qual : Str} {params : Arguments} {body : List Stmt} {scope : Scope} {dV kV doc pm cdv ct oc : Value} {an od : Option Addr} {osl : Array (Option Value)} {f : Addr} {args : List Value}
/-- a def is entered with a ledger of its own; what else stands is kept, and told of again at the end -/
theorem enter_keep (rb : List (Str × Value)) (rest : List (Addr × Obj)) (B : Below A₀ base outer h₀) (F : Fr h₀ L s.heap m) (X₀ : K.In h₀) (N : News h₀ L s.heap news) (T : Top p loose mean mg mb h₀)
    (NR : ∀ q ∈ rest, s.heap.get? q.1 = some q.2 ∧ q.1 ∉ news.map (·.1)) (hA : A.frames = some (env :: outer)) (hf : env.frame = some L) (hke : env.scope.kind = .function)
    (ho : K.lookup f = some ⟨oc, od, .func (fnOf name qual params body scope dV kV doc pm an cdv ct), osl⟩) (hcd : codeIn K cdv qual = true) (hroom : A.depth < recursionLimit)
    (hbind : BindsTo s (fnOf name qual params body scope dV kV doc pm an cdv ct) ⟨args, []⟩ rb.reverse)
    (hloc : (rb.all fun x => decide (scope.names.lookup x.1 = some .local)) = true)
    (hco : scope.isCoroutine = false) (hgen : scope.isGenerator = false) (hk : scope.kind = .function)
    (hcell : (scope.names.all fun x => match x.2 with | .cell => false | _ => true) = true)
    (h : ∀ g L' h₁ tk, (∀ q ∈ rest, g.get? q.1 = some q.2) → Fr h₀ L g m → Fr g L' h₁ (fun y => rb.lookup y) → News g L' h₁ news → Below A base (env :: outer) g → K.In g → Top p loose mean mg mb g →
      wpAny (model prog w) (A.deeper (envOf qual scope L' f cdv)) (execs body (envOf qual scope L' f cdv))
        (fun fl s' => LeaveK h₀ L m g R (match fl with | .ret v => v | _ => .none) s')
        (fun e s' => wpAny (model prog w) (A.deeper (envOf qual scope L' f cdv)) (leaving (envOf qual scope L' f cdv) e) (fun _ s'' => R (.error e) s'') (fun e' s'' => R (.error e') s'') s')
        { s with heap := h₁, toks := tk }) : codeAny (model prog w) A (.call (.ref f) ⟨args, []⟩) R s := by
  obtain ⟨FG, BG, st, lv⟩ := groundX (R := R) B F N hA hf hke
  have X₁ := X₀.keeps F.keep
  refine codeAny_call_def (fd := fnOf name qual params body scope dV kV doc pm an cdv ct) (body := body) (binds := rb.reverse) hroom (X₁ _ _ ho) rfl (T.nolimit.keeps F.keep) (codeRec_of X₁ hcd) rfl hbind
    (fun x hx e => by have := List.all_eq_true.mp hcell x hx; rw [e] at this; cases this)
    (fun y hy => of_decide_eq_true (List.all_eq_true.mp hloc y (List.mem_reverse.mp hy))) (fun h₁ hns hk₁ => ?_) hco hgen hk
  rw [List.reverse_reverse] at hns
  refine wpAny_mono (h _ s.heap.objs.size h₁ _ (fun q hq => hideAll_get _ (NR q hq).1 (NR q hq).2) FG ⟨hns, fun b o e => hk₁ b o (of_hideAll _ e), Nat.le_of_eq (hideAll_size _ _)⟩ ?_ BG (X₀.keeps st) (T.keeps st)) (fun fl s' hl => lv _ _ hl) fun _ _ y => y
  exact fun q hq => ⟨hk₁ _ _ (N q hq).1, Nat.ne_of_lt (Heap.lt_size (N q hq).1), hideAll_none _ (List.mem_map_of_mem hq)⟩
end

theorem rest_back {g h₀ h h1 : Heap} {L L' : Addr} {m' : Str → Option Value} {rest : List (Addr × Obj)} (HK : ∀ q ∈ rest, g.get? q.1 = some q.2) (N : News h₀ L h1 rest) (F : Fr g L' h m') : News h₀ L h rest :=
  fun q hq => ⟨F.keep _ _ (HK q hq), (N q hq).2.1, (N q hq).2.2⟩
theorem apart_new {g h : Heap} {L : Addr} {q : Addr} {o : Obj} {l rest : List (Addr × Obj)} (HK : ∀ p ∈ rest, g.get? p.1 = some p.2) (N : News g L h ((q, o) :: l)) : ∀ p ∈ rest, p.1 ≠ q :=
  fun p hp e => by have := (N (q, o) (.head _)).2.2; rw [← e, HK p hp] at this; cases this
theorem news_app {h₀ h : Heap} {L : Addr} {a b : List (Addr × Obj)} (x : News h₀ L h a) (y : News h₀ L h b) : News h₀ L h (a ++ b) :=
  fun q hq => (List.mem_append.mp hq).elim (x q) (y q)
theorem news_l {h₀ h : Heap} {L : Addr} {a b : List (Addr × Obj)} (x : News h₀ L h (a ++ b)) : News h₀ L h a := fun q hq => x q (List.mem_append.mpr (.inl hq))
theorem news_r {h₀ h : Heap} {L : Addr} {a b : List (Addr × Obj)} (x : News h₀ L h (a ++ b)) : News h₀ L h b := fun q hq => x q (List.mem_append.mpr (.inr hq))

section
variable {prog : Program} {w : World} {A₀ A : Around} {s : Shared} {base h₀ : Heap} {outer : List Env} {L : Addr} {m mg mb : Str → Option Value} {env : Env} {led small : List (Addr × Obj)} {K : Frag} {p : Program} {loose : List Str} {mean : ExcName → Option Value}
  {R : Result → Shared → Prop} {name qual : Str} {params : Arguments} {body : List Stmt} {scope : Scope} {dV kV doc pm cdv ct oc : Value} {an od : Option Addr} {osl : Array (Option Value)} {f : Addr} {args : List Value}
/-- a def is entered with a part of the ledger; the whole stands as it stood if that part does -/
theorem enter_ro (rb : List (Str × Value)) (small : List (Addr × Obj)) (B : Below A₀ base outer h₀) (F : Fr h₀ L s.heap m) (X₀ : K.In h₀) (N : News h₀ L s.heap led) (hs : ∀ q ∈ small, q ∈ led) (T : Top p loose mean mg mb h₀)
    (hA : A.frames = some (env :: outer)) (hf : env.frame = some L) (hke : env.scope.kind = .function)
    (ho : K.lookup f = some ⟨oc, od, .func (fnOf name qual params body scope dV kV doc pm an cdv ct), osl⟩) (hcd : codeIn K cdv qual = true) (hroom : A.depth < recursionLimit)
    (hbind : BindsTo s (fnOf name qual params body scope dV kV doc pm an cdv ct) ⟨args, []⟩ rb.reverse)
    (hloc : (rb.all fun x => decide (scope.names.lookup x.1 = some .local)) = true)
    (hco : scope.isCoroutine = false) (hgen : scope.isGenerator = false) (hk : scope.kind = .function)
    (hcell : (scope.names.all fun x => match x.2 with | .cell => false | _ => true) = true)
    (h : ∀ g L' h₁ tk, (∀ q ∈ led, q.1 ∉ small.map (·.1) → g.get? q.1 = some q.2) → Fr h₀ L g m → Fr g L' h₁ (fun y => rb.lookup y) → News g L' h₁ small → Below A base (env :: outer) g → K.In g → Top p loose mean mg mb g →
      wpAny (model prog w) (A.deeper (envOf qual scope L' f cdv)) (execs body (envOf qual scope L' f cdv))
        (fun fl s' => LeaveK h₀ L m g R (match fl with | .ret v => v | _ => .none) s')
        (fun e s' => wpAny (model prog w) (A.deeper (envOf qual scope L' f cdv)) (leaving (envOf qual scope L' f cdv) e) (fun _ s'' => R (.error e) s'') (fun e' s'' => R (.error e') s'') s')
        { s with heap := h₁, toks := tk }) : codeAny (model prog w) A (.call (.ref f) ⟨args, []⟩) R s := by
  refine enter_keep rb (led.filter fun q => decide (q.1 ∉ small.map (·.1))) B F X₀ (fun q hq => N q (hs q hq)) T (fun q hq => ?_) hA hf hke ho hcd hroom hbind hloc hco hgen hk hcell
    (fun g L' h₁ tk HK => h g L' h₁ tk fun q hq hn => HK q (List.mem_filter.mpr ⟨hq, decide_eq_true hn⟩))
  obtain ⟨h1, h2⟩ := List.mem_filter.mp hq
  exact ⟨(N q h1).1, of_decide_eq_true h2⟩
end
theorem led_back {g h₀ h h1 : Heap} {L L' : Addr} {m' : Str → Option Value} {led small : List (Addr × Obj)} (HK : ∀ q ∈ led, q.1 ∉ small.map (·.1) → g.get? q.1 = some q.2) (N : News h₀ L h1 led) (hs : ∀ q ∈ small, q ∈ led)
    (F : Fr g L' h m') (E : News g L' h small) : News h₀ L h led := fun q hq => by
  refine ⟨?_, (N q hq).2.1, (N q hq).2.2⟩
  by_cases hn : q.1 ∈ small.map (·.1)
  · obtain ⟨q', h1', e⟩ := List.mem_map.mp hn
    have e1 := (N q' (hs q' h1')).1
    rw [e, (N q hq).1] at e1
    have e2 := (E q' h1').1
    rw [e] at e2
    rw [e2, ← Option.some.inj e1]
  · exact F.keep _ _ (HK q hq hn)
theorem lt_of_all {q : Addr} : ∀ {l : List (Addr × Obj)}, AllLt q l → ∀ p ∈ l, p.1 < q
  | [], _, _, hp => nomatch hp
  | _ :: _, h, p, hp => by
    rcases List.mem_cons.mp hp with e | hp
    · rw [e]; exact h.1
    · exact lt_of_all h.2 p hp
theorem led_apart {g h : Heap} {L : Addr} {q : Addr} {o : Obj} {l led small : List (Addr × Obj)} (HK : ∀ p ∈ led, p.1 ∉ small.map (·.1) → g.get? p.1 = some p.2) (N : News g L h ((q, o) :: l)) (hlt : AllLt q small) : ∀ p ∈ led, p.1 ≠ q :=
  fun p hp e => by
    by_cases hn : p.1 ∈ small.map (·.1)
    · obtain ⟨p', hp', e'⟩ := List.mem_map.mp hn
      exact absurd (e'.trans e) (Nat.ne_of_lt (lt_of_all hlt _ hp'))
    · have := (N (q, o) (.head _)).2.2; rw [← e, HK p hp hn] at this; cases this
theorem led_upd {g h₀ h h1 : Heap} {L L' d : Addr} {o o' : Obj} {m' : Str → Option Value} {led others : List (Addr × Obj)} (HK : ∀ q ∈ led, q.1 ∉ ((d, o) :: others).map (·.1) → g.get? q.1 = some q.2) (N : News h₀ L h1 led) (hs : ∀ q ∈ (d, o) :: others, q ∈ led)
    (F : Fr g L' h m') (E : News g L' h ((d, o') :: others)) : ∀ led', Upd d o o' led led' → News h₀ L h led' := fun led' U q hq => by
  obtain ⟨pre, post, rfl, rfl, ha, hb⟩ := U.split
  have old : ∀ q ∈ pre ++ (d, o) :: post, q.1 ≠ d → h.get? q.1 = some q.2 := fun q hq hd => by
    by_cases hn : q.1 ∈ ((d, o) :: others).map (·.1)
    · rcases List.mem_cons.mp hn with e | hn
      · exact absurd e hd
      · obtain ⟨q', h1', e⟩ := List.mem_map.mp hn
        have e1 := (N q' (hs q' (.tail _ h1'))).1
        rw [e, (N q hq).1] at e1
        have e2 := (E q' (.tail _ h1')).1
        rw [e] at e2
        rw [e2, ← Option.some.inj e1]
    · exact F.keep _ _ (HK q hq hn)
  rcases List.mem_append.mp hq with hq | hq
  · have hq' := List.mem_append.mpr (.inl hq : q ∈ pre ∨ q ∈ (d, o) :: post)
    exact ⟨old q hq' (ha q hq), (N q hq').2⟩
  · rcases List.mem_cons.mp hq with e | hq
    · have z := N (d, o) (List.mem_append.mpr (.inr (.head _)))
      rw [e]
      exact ⟨(E _ (.head _)).1, z.2⟩
    · have hq' := List.mem_append.mpr (.inr (.tail _ hq) : q ∈ pre ∨ q ∈ (d, o) :: post)
      exact ⟨old q hq' (hb q hq), (N q hq').2⟩
theorem neF {q r : Addr} {o : Obj} {l : List (Addr × Obj)} (h : ∀ p ∈ l, p.1 ≠ r) (m : (q, o) ∈ l) : @Ne Nat q r := h _ m
def AllLe (d : Addr) : List (Addr × Obj) → Prop
  | [] => True
  | p :: r => @LE.le Nat _ p.1 d ∧ AllLe d r
theorem le_all {q : Addr} : ∀ {l : List (Addr × Obj)}, AllLe q l → ∀ p ∈ l, p.1 ≤ q
  | [], _, _, hp => nomatch hp
  | _ :: _, h, p, hp => by
    rcases List.mem_cons.mp hp with e | hp
    · rw [e]; exact h.1
    · exact le_all h.2 p hp
theorem lt_top {q z : Addr} {l : List (Addr × Obj)} (h : ∀ p ∈ l, p.1 ≤ z) (hz : @LT.lt Nat _ z q) : ∀ p ∈ l, p.1 < q := fun p hp => Nat.lt_of_le_of_lt (h p hp) hz
def AllNe (d : Addr) : List (Addr × Obj) → Prop
  | [] => True
  | p :: r => @Ne Nat p.1 d ∧ AllNe d r
theorem all_ne {d : Addr} : ∀ {l : List (Addr × Obj)}, (∀ p ∈ l, p.1 ≠ d) → AllNe d l
  | [], _ => trivial
  | _ :: _, h => ⟨h _ (.head _), all_ne fun q hq => h q (.tail _ hq)⟩
theorem ne_of_all {q : Addr} : ∀ {l : List (Addr × Obj)}, AllNe q l → ∀ p ∈ l, p.1 ≠ q
  | [], _, _, hp => nomatch hp
  | _ :: _, h, p, hp => by
    rcases List.mem_cons.mp hp with e | hp
    · rw [e]; exact h.1
    · exact ne_of_all h.2 p hp
theorem led_apart' {g : Heap} {q : Addr} {led small : List (Addr × Obj)} (HK : ∀ p ∈ led, p.1 ∉ small.map (·.1) → g.get? p.1 = some p.2) (N : g.get? q = none) (hlt : AllNe q small) : ∀ p ∈ led, p.1 ≠ q :=
  fun p hp e => by
    by_cases hn : p.1 ∈ small.map (·.1)
    · obtain ⟨p', hp', e'⟩ := List.mem_map.mp hn
      exact absurd (e'.trans e) (ne_of_all hlt _ hp')
    · rw [← e, HK p hp hn] at N; cases N


section
variable {prog : Program} {w : World} {A : Around} {E : Value → Shared → Prop} {s : Shared} {x y : Int} {t u : Tok}
/-- a mask of 32 bits: some int below 2^32 -/
theorem and_mask {Q : Value → Shared → Prop} (h : ∀ r : Int, 0 ≤ r → r < 4294967296 → Q (.int r s.toks) { s with toks := s.toks + 1 }) :
    wpAny (model prog w) A (binaryOp .BitAnd (.int x t) (.int 4294967295 u)) Q E s := by
  refine and_int ?_
  rw [bitAnd_m32]
  exact h _ (Int.emod_nonneg _ (by decide)) (Int.emod_lt_of_pos _ (by decide))
theorem and_none {Q : Value → Shared → Prop} (hy : y = 0) (h : Q (.int 0 s.toks) { s with toks := s.toks + 1 }) :
    wpAny (model prog w) A (binaryOp .BitAnd (.int x t) (.int y u)) Q E s := by
  subst hy
  refine and_int ?_
  rw [bitAnd_zero]
  exact h
/-- the hash's parts: some int -/
theorem shl5 {Q : Value → Shared → Prop} (h0 : 0 ≤ x) (h1 : x < 4294967296) (h : ∀ v : Int, Q (.int v s.toks) { s with toks := s.toks + 1 }) :
    wpAny (model prog w) A (binaryOp .LShift (.int x t) (.int 5 u)) Q E s :=
  lshift_int_small (by decide) (by decide) (by omega) (h _)
theorem shr2 {Q : Value → Shared → Prop} (h : ∀ v : Int, Q (.int v s.toks) { s with toks := s.toks + 1 }) :
    wpAny (model prog w) A (binaryOp .RShift (.int x t) (.int 2 u)) Q E s :=
  rshift_int (by decide) (h _)
theorem xor_any {Q : Value → Shared → Prop} (h : ∀ v : Int, Q (.int v s.toks) { s with toks := s.toks + 1 }) :
    wpAny (model prog w) A (binaryOp .BitXor (.int x t) (.int y u)) Q E s := xor_int (h _)
theorem shl_one {Q : Value → Shared → Prop} (h : Q (.int 1 s.toks) { s with toks := s.toks + 1 }) :
    wpAny (model prog w) A (binaryOp .LShift (.int 1 t) (.int 0 u)) Q E s :=
  lshift_int_small (by decide) (by decide) (by decide) h
end

/-- a key's entry -/
abbrev en (w : World) (x : String) (t : Tok) (v : Value) : DictEntry := ⟨PyData.keyHash w.params (PySem.Str.ofString x), .str (PySem.Str.ofString x) t, v⟩
abbrev tupOf (vs : Array Value) : Obj := { cls := .type "tuple", data := .seq vs }
/-- a table's fields -/
abbrev tabE (w : World) (t0 t1 t2 t3 t4 t5 t6 t7 t8 t9 u1 u2 u4 u5 u8 u9 : Tok) (num : Value) (size : Int) (la ln : Addr) (lg fr : Int) : List DictEntry :=
  [en w "number" t0 num, en w "mark" t1 (.int 0 u1), en w "size" t2 (.int size u2), en w "meta" t3 .none, en w "flags" t4 (.int 0 u4), en w "weak" t5 (.bytes #[] u5), en w "array" t6 (.ref la), en w "nodes" t7 (.ref ln), en w "log_nodes" t8 (.int lg u8), en w "free" t9 (.int fr u9)]
/-- a node as it is made -/
abbrev nodeE (w : World) (t0 t1 t2 : Tok) (k v : Value) (nx : Value) : List DictEntry := [en w "key" t0 k, en w "value" t1 v, en w "next" t2 nx]
/-- the state's fields -/
abbrev globE (w : World) (g0 g1 g2 g3 g4 g5 g6 g7 g8 g9 w8 w9 : Tok) (lim M out : Addr) : List DictEntry :=
  [en w "limits" g0 (.ref lim), en w "vm" g1 .none, en w "heap" g2 .none, en w "registry" g3 .none, en w "main" g4 .none, en w "metas" g5 (.ref M), en w "panic" g6 .none, en w "out" g7 (.ref out), en w "steps" g8 (.int 0 w8), en w "last_number" g9 (.int 0 w9)]
/-- a userdata's fields -/
abbrev userE (w : World) (y0 y1 y2 y3 y4 y5 y6 z0 z1 z2 z3 : Tok) (ub : Array UInt8) (mv : Value) : List DictEntry :=
  [en w "number" y0 (.int 0 z0), en w "mark" y1 (.int 0 z1), en w "size" y2 (.int 5 z2), en w "value" y3 (.bytes ub z3), en w "meta" y4 mv, en w "env" y5 .none, en w "is_finalized" y6 (.bool false)]
/-- what a metatable's __len may be -/
def Val3 (v : Value) : Prop := (∃ t, v = .bytes #[102] t) ∨ v = .bool true
theorem Val3.handed {v : Value} (h : Val3 v) : handedIn v = true := by rcases h with ⟨t, rfl⟩ | rfl <;> rfl
/-- a metatable as it was made (none, one without __len, one with it), and what it answers -/
inductive MetaIn (w : World) (tabs : List (Addr × Obj)) : Value → Value → Prop
  | none : MetaIn w tabs .none .none
  | hit {x d la l2 n2 d2 : Addr} {num val : Value} {tk2 : Tok} {t0 t1 t2 t3 t4 t5 t6 t7 t8 t9 u1 u2 u4 u5 u8 u9 k0 k1 k2 k3 : Tok} {nn : Nat} {sz : Int} : (x, instObj 491 d) ∈ tabs → (d, dictOf (tabE w t0 t1 t2 t3 t4 t5 t6 t7 t8 t9 u1 u2 u4 u5 u8 u9 num sz la l2 0 1) 10) ∈ tabs → (l2, listOf #[.ref n2] nn) ∈ tabs → (n2, instObj 260 d2) ∈ tabs →
      (d2, dictOf (nodeE w k0 k1 k2 (.bytes #[95, 95, 108, 101, 110] tk2) val (.int (-1) k3)) 3) ∈ tabs → Val3 val → MetaIn w tabs (.ref x) val
  | miss {x d la l2 n2 d2 : Addr} {num val : Value} {tk2 : Tok} {t0 t1 t2 t3 t4 t5 t6 t7 t8 t9 u1 u2 u4 u5 u8 u9 k0 k1 k2 k3 : Tok} {nn : Nat} {sz : Int} : (x, instObj 491 d) ∈ tabs → (d, dictOf (tabE w t0 t1 t2 t3 t4 t5 t6 t7 t8 t9 u1 u2 u4 u5 u8 u9 num sz la l2 0 1) 10) ∈ tabs → (l2, listOf #[.ref n2] nn) ∈ tabs → (n2, instObj 260 d2) ∈ tabs →
      (d2, dictOf (nodeE w k0 k1 k2 (.bytes #[95, 95, 105, 110, 100, 101, 120] tk2) val (.int (-1) k3)) 3) ∈ tabs → MetaIn w tabs (.ref x) .none
theorem MetaIn.mono {w : World} {tabs tabs' : List (Addr × Obj)} {a b : Value} (h : MetaIn w tabs a b) (hs : ∀ p ∈ tabs, p ∈ tabs') : MetaIn w tabs' a b := by
  cases h with
  | none => exact .none
  | hit m1 m2 m3 m4 m5 hv => exact .hit (hs _ m1) (hs _ m2) (hs _ m3) (hs _ m4) (hs _ m5) hv
  | miss m1 m2 m3 m4 m5 => exact .miss (hs _ m1) (hs _ m2) (hs _ m3) (hs _ m4) (hs _ m5)
theorem MetaIn.kind {w : World} {tabs : List (Addr × Obj)} {a b : Value} (h : MetaIn w tabs a b) : b = .none ∨ (∃ t, b = .bytes #[102] t) ∨ b = .bool true := by
  cases h with
  | none => exact .inl rfl
  | hit _ _ _ _ _ hv => exact .inr hv
  | miss => exact .inl rfl
/-- a value's own answer, else nil's -/
def orNil (a n : Value) : Value := match a with | .none => n | v => v
section
variable {K : Type} [DecidableEq K]
theorem valueAt_without (kvs : List (K × Value)) (k k' : K) : valueAt (without kvs k) k' = if k' = k then none else valueAt kvs k' := by
  induction kvs with
  | nil => simp [valueAt, without]
  | cons kv r ih =>
    unfold valueAt without at ih ⊢
    by_cases h1 : kv.1 = k
    · rw [List.filter_cons_of_neg (by simp [h1]), ih]
      by_cases h2 : k' = k
      · simp [h2]
      · have h3 : ¬ kv.1 = k' := fun e => h2 (e.symm.trans h1)
        simp [h2, List.find?_cons, h3]
    · rw [List.filter_cons_of_pos (by simp [h1]), List.find?_cons, List.find?_cons]
      by_cases h3 : kv.1 = k'
      · have h2 : ¬ k' = k := fun e => h1 (h3.trans e)
        simp [h3, h2]
      · simp only [h3, decide_false]
        exact ih
theorem valueAt_map_of (kvs : List (K × Value)) (k k' : K) (v : Value) : valueAt (kvs.map fun kv => if kv.1 = k then (kv.1, v) else kv) k' = if k' = k then (if (kvs.any fun kv => kv.1 = k) then some v else none) else valueAt kvs k' := by
  induction kvs with
  | nil => simp [valueAt]
  | cons kv r ih =>
    unfold valueAt at ih ⊢
    rw [List.map_cons, List.find?_cons]
    by_cases h1 : kv.1 = k
    · by_cases h2 : k' = k
      · simp [h1, h2]
      · have h3 : ¬ k = k' := fun e => h2 e.symm
        simp only [h1, if_true, h3, decide_false]
        rw [ih]
        simp [h2, List.find?_cons, h1, h3]
    · by_cases h3 : kv.1 = k'
      · have h2 : ¬ k' = k := fun e => h1 (h3.trans e)
        simp [h1, h2, h3, List.find?_cons]
      · simp only [h1, if_false, h3, decide_false]
        rw [ih]
        by_cases h2 : k' = k
        · rw [if_pos h2, if_pos h2, List.any_cons, decide_eq_false h1, Bool.false_or]
        · simp [h2, h3]
theorem valueAt_stored (kvs : List (K × Value)) (k k' : K) (v : Value) : valueAt (stored kvs k v) k' = if k' = k then some v else valueAt kvs k' := by
  unfold stored
  by_cases h : (kvs.any fun kv => decide (kv.1 = k)) = true
  · rw [if_pos h, valueAt_map_of, if_pos h]
  · rw [if_neg h]
    unfold valueAt
    rw [List.find?_append]
    by_cases h2 : k' = k
    · subst h2
      have : kvs.find? (fun kv => decide (kv.1 = k')) = none := by
        rw [List.find?_eq_none]
        intro x hx e
        exact h (List.any_eq_true.mpr ⟨x, hx, e⟩)
      simp [this]
    · have h3 : ¬ k = k' := fun e => h2 e.symm
      simp [h2, h3]
end
/-- the kinds' own metatables: a dict by the kinds' tags, none where it holds no such tag -/
def MetasIs (w : World) (n : Nat) (o : Obj) (f : Int → Value) : Prop :=
  ∃ kvs, o.IsDictOf (PySem.intKind PySem.Challenge.rw_rh0165_01.row.prog w) kvs ∧ kvs.length ≤ n ∧ ∀ k, (valueAt kvs k).getD .none = f k
section
variable {w : World} {A : Around} {E : Value → Shared → Prop} {s : Shared} {h₀ : Heap} {L d : Addr} {m : Str → Option Value} {news : List (Addr × Obj)} {g : Obj → List (Addr × Obj)} {o : Obj} {n : Nat} {f : Int → Value} {k : Int} {t : Tok} {v : Value}
theorem metas_get_method {pl : Sem Bool} {Q : Value × List Value → Shared → Prop} (N : News h₀ L s.heap news) (hp : (d, o) ∈ news) (M : MetasIs w n o f) (h : Q (.builtin "dict.get", [.ref d]) s) :
    wpAny (model PySem.Challenge.rw_rh0165_01.row.prog w) A (getMethod (.ref d) "get" pl) Q E s := by
  obtain ⟨kvs, hd, _, _⟩ := M
  exact kdg_method N hp hd h
theorem metas_pop_method {pl : Sem Bool} {Q : Value × List Value → Shared → Prop} (N : News h₀ L s.heap news) (hp : (d, o) ∈ news) (M : MetasIs w n o f) (h : Q (.builtin "dict.pop", [.ref d]) s) :
    wpAny (model PySem.Challenge.rw_rh0165_01.row.prog w) A (getMethod (.ref d) "pop" pl) Q E s := by
  obtain ⟨kvs, hd, _, _⟩ := M
  exact kob_method PySem.F.slot_dict_pop PySem.F.type_dict_pop N hp hd h
theorem metas_get {Q : Value → Shared → Prop} (N : News h₀ L s.heap news) (hp : (d, o) ∈ news) (M : MetasIs w n o f) (lo : (d == sysModules) = false) (h : Q (f k) { s with toks := s.toks + 1 }) :
    wpAny (model PySem.Challenge.rw_rh0165_01.row.prog w) A (call (.builtin "dict.get") [.ref d, .int k t]) Q E s := by
  obtain ⟨kvs, hd, _, hf⟩ := M
  exact kdg_get1 N hp hd lo (intKind_is _ _ _ _) _ rfl (by rw [hf]; exact h)
theorem metas_set {Q : Unit → Shared → Prop} (F : Fr h₀ L s.heap m) (N : News h₀ L s.heap news) (U : UpdF d o news g) (M : MetasIs w n o f) (hn : n ≤ 100)
    (h : ∀ h' o', Fr h₀ L h' m → News h₀ L h' (g o') → MetasIs w (n + 1) o' (fun k' => if k' = k then v else f k') → Q () { s with heap := h', toks := s.toks + 1 }) :
    wpAny (model PySem.Challenge.rw_rh0165_01.row.prog w) A (setItem (.ref d) (.int k t) v) Q E s := by
  obtain ⟨kvs, hd, hl, hf⟩ := M
  refine kda_set F N U hd (intKind_is _ _ _ _) (Nat.le_trans hl (Nat.le_trans hn (by rw [sizeLine_eq]; decide))) fun h' o' F' N' hd' => h h' o' F' N' ⟨_, hd', Nat.le_trans (stored_length_le _ _ _) (Nat.succ_le_succ hl), fun k' => ?_⟩
  rw [valueAt_stored]
  by_cases e : k' = k
  · simp [e]
  · simp only [if_neg e]; exact hf k'
theorem metas_pop {Q : Value → Shared → Prop} (F : Fr h₀ L s.heap m) (N : News h₀ L s.heap news) (U : UpdF d o news g) (M : MetasIs w n o f) (hn : n ≤ 100) (lo : (d == sysModules) = false)
    (h : ∀ v h' o', Fr h₀ L h' m → News h₀ L h' (g o') → MetasIs w n o' (fun k' => if k' = k then .none else f k') → Q v { s with heap := h', toks := s.toks + 1 }) :
    wpAny (model PySem.Challenge.rw_rh0165_01.row.prog w) A (call (.builtin "dict.pop") [.ref d, .int k t, .none]) Q E s := by
  obtain ⟨kvs, hd, hl, hf⟩ := M
  cases hv : valueAt kvs k with
  | none =>
    obtain ⟨pre, post, rfl, hg, a, b⟩ := U.split
    have hm := N (d, o) (List.mem_append_right _ (.head _))
    have hD := Heap.dictOf_iff.mpr ⟨o, hm.1, hd⟩
    refine call_meetsIn PySem.F.slot_dict_pop hD.typeIs PySem.F.entry_dict_pop (PySem.F.args_dict_pop_3 _ _ _) (meets_dict_pop_default _ d (intKind_is _ _ _ _) lo rfl .none) ⟨kvs, hD, hv, ?_⟩
    refine h .none s.heap o F (by rw [hg]; exact N) ⟨kvs, hd, hl, fun k' => ?_⟩
    show _ = if k' = k then Value.none else f k'
    by_cases e : k' = k
    · rw [if_pos e, e, hv]; rfl
    · rw [if_neg e]; exact hf k'
  | some v =>
    refine kob_pop (more := [.none]) F N U hd (intKind_is _ _ _ _) (.inr ⟨_, rfl⟩) rfl (PySem.F.args_dict_pop_3 _ _ _) hv (Nat.le_trans hl (Nat.le_trans hn (by rw [sizeLine_eq]; decide))) fun h' o' F' N' hd' => h v h' o' F' N' ⟨_, hd', Nat.le_trans (List.length_filter_le _ _) hl, fun k' => ?_⟩
    rw [valueAt_without]
    by_cases e : k' = k
    · simp [e]
    · simp only [if_neg e]; exact hf k'
end
theorem MetasIs.more {w : World} {n : Nat} {o : Obj} {f : Int → Value} (M : MetasIs w n o f) : MetasIs w (n + 1) o f := let ⟨kvs, a, b, c⟩ := M; ⟨kvs, a, Nat.le_succ_of_le b, c⟩
theorem metas_get' {w : World} {A : Around} {E : Value → Shared → Prop} {s : Shared} {h₀ : Heap} {L d : Addr} {news : List (Addr × Obj)} {o : Obj} {n : Nat} {f : Int → Value} {k : Int} {t : Tok} {v : Value} {Q : Value → Shared → Prop} (N : News h₀ L s.heap news) (hp : (d, o) ∈ news) (M : MetasIs w n o f) (lo : (d == sysModules) = false) (hv : f k = v) (h : Q v { s with toks := s.toks + 1 }) :
    wpAny (model PySem.Challenge.rw_rh0165_01.row.prog w) A (call (.builtin "dict.get") [.ref d, .int k t]) Q E s := metas_get N hp M lo (hv ▸ h)
section
variable {prog : Program} {w : World} {A : Around} {E : Value → Shared → Prop} {s : Shared} {env : Env} {h₀ : Heap} {target : Expr} {body : List Stmt} {Q : Flow → Shared → Prop}
/-- turns by an invariant of the frame's map and the ledger -/
theorem items_of (J : (Str → Option Value) → List (Addr × Obj) → Prop) {ws : List (Addr × String)} {keep : List (Addr × Obj)}
    (hz : ∀ m news, J m news → ∀ h tk, Fr h₀ env.locals h m → News h₀ env.locals h news → Q .next { s with heap := h, toks := tk }) :
    ∀ xs : List Itm, (∀ a ∈ xs, ∀ m news, J m news → ∀ v h tk, a.Is v h → Fr h₀ env.locals h m → AllObj ws (fun its => News h₀ env.locals h (its ++ news) →
      wpAny (model prog w) A (assign target env v) (fun _ s₂ => wpAny (model prog w) A (execs body env) (UnrPostW h₀ env.locals { s with heap := h, toks := tk } its (fun m' n' => SubL keep n' ∧ J m' n') Q) E s₂) E { s with heap := h, toks := tk })) →
    ∀ m news, J m news → ItemsRest prog w A E h₀ env target body Q s ws keep xs m news
  | [], _, m, news, hJ => ItemsRest.zero (hz m news hJ)
  | a :: r, step, m, news, hJ => fun v h tk hv F => by
    have ih := items_of J hz r fun a' ha' => step a' (.tail _ ha')
    have one := step a (.head _) m news hJ v h tk hv F
    revert one
    have gen : ∀ (ws' : List (Addr × String)) (k1 k2 : List (Addr × Obj) → Prop), (∀ its, k1 its → k2 its) → AllObj ws' k1 → AllObj ws' k2 := by
      intro ws'
      induction ws' with
      | nil => exact fun k1 k2 hk h => hk _ h
      | cons x r' ih' => exact fun k1 k2 hk h o ho => ih' _ _ (fun its h => hk _ h) (h o ho)
    refine gen _ _ _ fun its h1 N => wpAny_mono (h1 N) (fun _ s₂ h2 => wpAny_mono h2 (fun fl s₃ p => ?_) fun _ _ e => e) fun _ _ e => e
    have fin : UnrEndW h₀ env.locals { s with heap := h, toks := tk } its (fun m' n' => SubL keep n' ∧ J m' n') s₃ → UnrEndW h₀ env.locals { s with heap := h, toks := tk } its (fun m' n' => SubL keep n' ∧ ItemsRest prog w A E h₀ env target body Q s ws keep r m' n') s₃ := by
      rintro ⟨h', tk', m', n', e, F', N', ho, hk, hj⟩
      exact ⟨h', tk', m', n', e, F', N', ho, hk, ih m' n' hj⟩
    cases fl with
    | ret v => exact p
    | brk => exact p
    | next => exact fin p
    | cont => exact fin p
end
section
variable {α : Type}
theorem lk_skip {x z : Str} {u : α} {l : List (Str × α)} (h : (x == z) = false) : List.lookup x ((z, u) :: l) = List.lookup x l := by rw [List.lookup_cons, h]
theorem lki_skip {x z : Str} {u : α} {r : Option α} (h : (x == z) = false) : (if x = z then some u else r) = r := if_neg (by intro e; rw [e] at h; simp at h)
end
section
variable {prog : Program} {w : World} {A : Around} {E : Value → Shared → Prop} {s : Shared} {h₀ : Heap}
/-- a list's item at a written place, the list anywhere in the ledger -/
theorem item_at {L al : Addr} {items : Array Value} {n : Nat} {k : Int} {t : Tok} {v : Value} {news : List (Addr × Obj)} {value slice : PySem.Expr} {Q : Value → Shared → Prop}
    (N : News h₀ L s.heap news) (hm : (al, listOf items n) ∈ news) (h0 : 0 ≤ k) (hhi : k < 2 ^ 63) (hx : items[k.toNat]? = some v) (h : Q v s)
    (hs : subscripted slice false (.ref al) (.int k t) = operate [.ref al, .int k t] (getItem (.ref al) (.int k t)) := by with_unfolding_all rfl) :
    wpAny (model prog w) A (subscriptTail value slice (.ref al) (.int k t)) Q E s :=
  have hl : s.heap.IsList al items := ⟨_, (N _ hm).1, rfl, _, rfl⟩
  tail_any hl.typeIs slot_list_getitem.lookup (wpAny_getItem_list hl h0 hhi hx h) hs
end
section
variable {a b c d e f : Value} {l : List Value}
theorem it0 : (List.toArray (a :: l))[Int.toNat 0]? = some a := rfl
theorem it1 : (List.toArray (a :: b :: l))[Int.toNat 1]? = some b := rfl
theorem it2 : (List.toArray (a :: b :: c :: l))[Int.toNat 2]? = some c := rfl
theorem it3 : (List.toArray (a :: b :: c :: d :: l))[Int.toNat 3]? = some d := rfl
theorem it4 : (List.toArray (a :: b :: c :: d :: e :: l))[Int.toNat 4]? = some e := rfl
theorem it5 : (List.toArray (a :: b :: c :: d :: e :: f :: l))[Int.toNat 5]? = some f := rfl
end
theorem sub_cons {x : Addr × Obj} {T l : List (Addr × Obj)} (h : ∀ p ∈ T, p ∈ l) : ∀ p ∈ T, p ∈ x :: l := fun p hp => List.mem_cons_of_mem _ (h p hp)
theorem turn_end {h₀ : Heap} {L I : Addr} {s₁ : Shared} {o1 o2 : Obj} {led keep : List (Addr × Obj)} {J : (Str → Option Value) → List (Addr × Obj) → Prop} {h' : Heap} {tk : Nat} {m' : Str → Option Value}
    (F : Fr h₀ L h' m') (N : News h₀ L h' ((I + 1, o1) :: (I, o2) :: led)) (hI : ∀ p ∈ led, p.1 < I) (hk : SubL keep led) (hj : J m' led) :
    UnrEndW h₀ L s₁ [((I + 1, "enumerate").1, o1), ((I, "list_iterator").1, o2)] (fun m' n' => SubL keep n' ∧ J m' n') { s₁ with heap := h', toks := tk } :=
  ⟨h', tk, m', led, rfl, F, N, (fun p hp q hq => by
    have h1 : @LT.lt Nat _ p.1 I := hI p hp
    rcases List.mem_cons.mp hq with rfl | hq
    · exact Nat.ne_of_lt (Nat.lt_succ_of_lt h1)
    · rcases List.mem_cons.mp hq with rfl | hq
      · exact Nat.ne_of_lt h1
      · cases hq), hk, hj⟩
/-- where a walk is to halt -/
structure Halt (p : Prop) : Prop where
  out : p
theorem halt {p : Prop} (h : Halt p) : p := h.out
theorem MetaIn.none_or {w : World} {tabs : List (Addr × Obj)} {a b : Value} (h : MetaIn w tabs a b) : a = .none ∨ ∃ x, a = .ref x := by
  cases h with
  | none => exact .inl rfl
  | hit => exact .inr ⟨_, rfl⟩
  | miss => exact .inr ⟨_, rfl⟩
/-- the kinds' own metatables as the law has set them -/
def fq (q0 q1 q2 q3 : Value) : Int → Value := fun k => if k = 0 then q0 else if k = 1 then q1 else if k = 3 then q2 else if k = 2 then q3 else .none
theorem fq_0 {q0 q1 q2 q3 v : Value} : (fun k : Int => if k = 0 then v else fq q0 q1 q2 q3 k) = fq v q1 q2 q3 := by
  funext k; unfold fq; by_cases h0 : k = 0 <;> simp [h0]
theorem fq_1 {q0 q1 q2 q3 v : Value} : (fun k : Int => if k = 1 then v else fq q0 q1 q2 q3 k) = fq q0 v q2 q3 := by
  funext k; unfold fq; by_cases h0 : k = 0
  · subst h0; simp
  · by_cases h1 : k = 1 <;> simp [h0, h1]
theorem fq_3 {q0 q1 q2 q3 v : Value} : (fun k : Int => if k = 3 then v else fq q0 q1 q2 q3 k) = fq q0 q1 v q3 := by
  funext k; unfold fq; by_cases h0 : k = 3
  · subst h0; simp
  · simp [h0]
theorem fq_2 {q0 q1 q2 q3 v : Value} : (fun k : Int => if k = 2 then v else fq q0 q1 q2 q3 k) = fq q0 q1 q2 v := by
  funext k; unfold fq; by_cases h0 : k = 2
  · subst h0; simp
  · simp [h0]
theorem MetasIs.eq {w : World} {n : Nat} {o : Obj} {f f' : Int → Value} (M : MetasIs w n o f) (e : f = f') : MetasIs w n o f' := e ▸ M
/-- what stands beside the objects that the law changes; q, r': the values' metatables and answers -/
structure LS (w : World) (gl gd lim out lv lvd uv ud uw ue vl al M r l I : Addr) (g0 g1 g2 g3 g4 g5 g6 g7 g8 g9 w8 w9 tv x0 x1 : Tok) (nv n2 : Nat) (ws : List Value) (q r' : Nat → Value) (TT : List (Addr × Obj)) : Prop where
  mg1 : (gl, instObj 211 gd) ∈ TT
  mg2 : (gd, dictOf (globE w g0 g1 g2 g3 g4 g5 g6 g7 g8 g9 w8 w9 lim M out) 10) ∈ TT
  mlv : (lv, instObj 115 lvd) ∈ TT
  mlv2 : (lvd, dictOf [en w "number" x0 (.int 3 x1)] 1) ∈ TT
  mu : (uv, instObj 185 ud) ∈ TT
  mu' : (uw, instObj 185 ue) ∈ TT
  mvl : (vl, listOf #[.none, .bool true, .int 5 tv, .ref lv, .ref uv, .ref uw] nv) ∈ TT
  ml : (l, listOf ws.toArray n2) ∈ TT
  mi : ∀ k, MetaIn w TT (q k) (r' k)
  n1 : ∀ p ∈ TT, p.1 ≠ al
  n2' : ∀ p ∈ TT, p.1 ≠ ue
  n3 : ∀ p ∈ TT, p.1 ≠ ud
  n4 : ∀ p ∈ TT, p.1 ≠ M
  n5 : ∀ p ∈ TT, p.1 ≠ r
  n6 : ∀ p ∈ TT, p.1 ≠ I
  n7 : ∀ p ∈ TT, p.1 ≠ I + 1
/-- the same, behind the loop -/
structure LS5 (w : World) (gl gd lim out lv lvd uv ud uw ue vl al M r l I : Addr) (g0 g1 g2 g3 g4 g5 g6 g7 g8 g9 w8 w9 tv x0 x1 : Tok) (nv n2 : Nat) (ws : List Value) (q r' : Nat → Value) (TT : List (Addr × Obj)) : Prop where
  mg1 : (gl, instObj 211 gd) ∈ TT
  mg2 : (gd, dictOf (globE w g0 g1 g2 g3 g4 g5 g6 g7 g8 g9 w8 w9 lim M out) 10) ∈ TT
  mlv : (lv, instObj 115 lvd) ∈ TT
  mlv2 : (lvd, dictOf [en w "number" x0 (.int 3 x1)] 1) ∈ TT
  mu : (uv, instObj 185 ud) ∈ TT
  mu' : (uw, instObj 185 ue) ∈ TT
  mvl : (vl, listOf #[.none, .bool true, .int 5 tv, .ref lv, .ref uv, .ref uw] nv) ∈ TT
  ml : (l, listOf ws.toArray n2) ∈ TT
  mi : ∀ k, MetaIn w TT (q k) (r' k)
  n1 : ∀ p ∈ TT, p.1 ≠ al
  n2' : ∀ p ∈ TT, p.1 ≠ ue
  n3 : ∀ p ∈ TT, p.1 ≠ ud
  n4 : ∀ p ∈ TT, p.1 ≠ M
  n5 : ∀ p ∈ TT, p.1 ≠ r
def updN (f : Nat → Value) (i : Nat) (v : Value) : Nat → Value := fun k => if k = i then v else f k
def fqN (q : Nat → Value) : Int → Value := fq (q 0) (q 1) (q 2) (q 3)
def tagN (i : Nat) : Int := match i with | 0 => 0 | 1 => 1 | 2 => 3 | _ => 2
theorem fqN_set {q : Nat → Value} {i : Nat} {v : Value} (hi : i < 4) : (fun k : Int => if k = tagN i then v else fqN q k) = fqN (updN q i v) := by
  have h : i = 0 ∨ i = 1 ∨ i = 2 ∨ i = 3 := by omega
  rcases h with rfl | rfl | rfl | rfl
  · exact fq_0
  · exact fq_1
  · exact fq_3
  · exact fq_2
theorem fqN_far {q : Nat → Value} {i : Nat} {v : Value} (hi : 4 ≤ i) : fqN (updN q i v) = fqN q := by
  unfold fqN updN
  rw [if_neg (by omega), if_neg (by omega), if_neg (by omega), if_neg (by omega)]
theorem range_upd {r : Nat → Value} {i : Nat} {a : Value} : (List.range (i + 1)).map (updN r i a) = (List.range i).map r ++ [a] := by
  rw [List.range_succ, List.map_append]
  congr 1
  · refine List.map_congr_left fun k hk => ?_
    have : k < i := List.mem_range.mp hk
    unfold updN
    rw [if_neg (by omega)]
  · simp [updN]
section
variable {w : World} {gl gd lim out lv lvd uv ud uw ue vl al M r l I : Addr} {g0 g1 g2 g3 g4 g5 g6 g7 g8 g9 w8 w9 tv x0 x1 : Tok} {nv n2 : Nat} {ws : List Value} {q r' : Nat → Value} {TT : List (Addr × Obj)}
theorem LS.grow {tabs led : List (Addr × Obj)} (S : LS w gl gd lim out lv lvd uv ud uw ue vl al M r l I g0 g1 g2 g3 g4 g5 g6 g7 g8 g9 w8 w9 tv x0 x1 nv n2 ws q r' TT) (nt : ∀ p' ∈ tabs, ∀ p ∈ led, p.1 ≠ p'.1)
    {v1 v2 v3 v4 v5 v6 v7 : Obj} (h1 : (al, v1) ∈ led) (h2 : (ue, v2) ∈ led) (h3 : (ud, v3) ∈ led) (h4 : (M, v4) ∈ led) (h5 : (r, v5) ∈ led) (h6 : (I, v6) ∈ led) (h7 : (I + 1, v7) ∈ led) :
    LS w gl gd lim out lv lvd uv ud uw ue vl al M r l I g0 g1 g2 g3 g4 g5 g6 g7 g8 g9 w8 w9 tv x0 x1 nv n2 ws q r' (tabs ++ TT) :=
  have ap : ∀ {a : Addr} {v : Obj}, (a, v) ∈ led → (∀ p ∈ TT, p.1 ≠ a) → ∀ p ∈ tabs ++ TT, p.1 ≠ a := fun hm ht p hp =>
    (List.mem_append.mp hp).elim (fun h e => nt p h _ hm e.symm) (ht p)
  { mg1 := List.mem_append_right _ S.mg1, mg2 := List.mem_append_right _ S.mg2, mlv := List.mem_append_right _ S.mlv, mlv2 := List.mem_append_right _ S.mlv2, mu := List.mem_append_right _ S.mu, mu' := List.mem_append_right _ S.mu', mvl := List.mem_append_right _ S.mvl, ml := List.mem_append_right _ S.ml,
    mi := fun k => (S.mi k).mono fun _ => List.mem_append_right _,
    n1 := ap h1 S.n1, n2' := ap h2 S.n2', n3 := ap h3 S.n3, n4 := ap h4 S.n4, n5 := ap h5 S.n5, n6 := ap h6 S.n6, n7 := ap h7 S.n7 }
theorem LS.put {v a : Value} (S : LS w gl gd lim out lv lvd uv ud uw ue vl al M r l I g0 g1 g2 g3 g4 g5 g6 g7 g8 g9 w8 w9 tv x0 x1 nv n2 ws q r' TT) (i : Nat) (h : MetaIn w TT v a) : LS w gl gd lim out lv lvd uv ud uw ue vl al M r l I g0 g1 g2 g3 g4 g5 g6 g7 g8 g9 w8 w9 tv x0 x1 nv n2 ws (updN q i v) (updN r' i a) TT :=
  { S with mi := fun k => by unfold updN; split; exact h; exact S.mi k }
theorem LS5.grow {tabs led : List (Addr × Obj)} (S : LS5 w gl gd lim out lv lvd uv ud uw ue vl al M r l I g0 g1 g2 g3 g4 g5 g6 g7 g8 g9 w8 w9 tv x0 x1 nv n2 ws q r' TT) (nt : ∀ p' ∈ tabs, ∀ p ∈ led, p.1 ≠ p'.1)
    {v1 v2 v3 v4 v5 : Obj} (h1 : (al, v1) ∈ led) (h2 : (ue, v2) ∈ led) (h3 : (ud, v3) ∈ led) (h4 : (M, v4) ∈ led) (h5 : (r, v5) ∈ led) :
    LS5 w gl gd lim out lv lvd uv ud uw ue vl al M r l I g0 g1 g2 g3 g4 g5 g6 g7 g8 g9 w8 w9 tv x0 x1 nv n2 ws q r' (tabs ++ TT) :=
  have ap : ∀ {a : Addr} {v : Obj}, (a, v) ∈ led → (∀ p ∈ TT, p.1 ≠ a) → ∀ p ∈ tabs ++ TT, p.1 ≠ a := fun hm ht p hp =>
    (List.mem_append.mp hp).elim (fun h e => nt p h _ hm e.symm) (ht p)
  { mg1 := List.mem_append_right _ S.mg1, mg2 := List.mem_append_right _ S.mg2, mlv := List.mem_append_right _ S.mlv, mlv2 := List.mem_append_right _ S.mlv2, mu := List.mem_append_right _ S.mu, mu' := List.mem_append_right _ S.mu', mvl := List.mem_append_right _ S.mvl, ml := List.mem_append_right _ S.ml,
    mi := fun k => (S.mi k).mono fun _ => List.mem_append_right _,
    n1 := ap h1 S.n1, n2' := ap h2 S.n2', n3 := ap h3 S.n3, n4 := ap h4 S.n4, n5 := ap h5 S.n5 }
theorem LS5.put {v a : Value} (S : LS5 w gl gd lim out lv lvd uv ud uw ue vl al M r l I g0 g1 g2 g3 g4 g5 g6 g7 g8 g9 w8 w9 tv x0 x1 nv n2 ws q r' TT) (i : Nat) (h : MetaIn w TT v a) : LS5 w gl gd lim out lv lvd uv ud uw ue vl al M r l I g0 g1 g2 g3 g4 g5 g6 g7 g8 g9 w8 w9 tv x0 x1 nv n2 ws (updN q i v) (updN r' i a) TT :=
  { S with mi := fun k => by unfold updN; split; exact h; exact S.mi k }
theorem LS.five (S : LS w gl gd lim out lv lvd uv ud uw ue vl al M r l I g0 g1 g2 g3 g4 g5 g6 g7 g8 g9 w8 w9 tv x0 x1 nv n2 ws q r' TT) : LS5 w gl gd lim out lv lvd uv ud uw ue vl al M r l I g0 g1 g2 g3 g4 g5 g6 g7 g8 g9 w8 w9 tv x0 x1 nv n2 ws q r' TT := { S with }
end
/-- the state ahead of the law's turn i -/
def LJ (w : World) (gl gd lim out lv lvd uv ud uw ue vl al M r l I : Addr) (g0 g1 g2 g3 g4 g5 g6 g7 g8 g9 w8 w9 tv x0 x1 : Tok) (nv n2 : Nat) (ws : List Value) (y0 y1 y2 y3 y4 y5 y6 z0 z1 z2 z3 a0 a1 a2 a3 a4 a5 a6 b0 b1 b2 b3 : Tok) (ub uc : Array UInt8) (n : Nat) (i : Nat) (m : Str → Option Value) (news : List (Addr × Obj)) : Prop :=
  ∃ (q r' : Nat → Value) (TT : List (Addr × Obj)) (o : Obj) (t : Int) (tk : Tok) (na : Nat),
    (∀ p ∈ (al, listOf ((List.range i).map r').toArray na) :: (ue, dictOf (userE w a0 a1 a2 a3 a4 a5 a6 b0 b1 b2 b3 uc (q 5)) 7) :: (ud, dictOf (userE w y0 y1 y2 y3 y4 y5 y6 z0 z1 z2 z3 ub (q 4)) 7) :: (M, o) :: (r, listOf #[.ref l, .int t tk] n) :: TT, p ∈ news) ∧
    LS w gl gd lim out lv lvd uv ud uw ue vl al M r l I g0 g1 g2 g3 g4 g5 g6 g7 g8 g9 w8 w9 tv x0 x1 nv n2 ws q r' TT ∧ MetasIs w i o (fqN q) ∧ 0 ≤ t ∧ t ≤ i ∧
    m (PySem.Str.ofString "rope") = some (.ref r) ∧ m (PySem.Str.ofString "glob") = some (.ref gl) ∧ m (PySem.Str.ofString "answers") = some (.ref al) ∧ m (PySem.Str.ofString "values") = some (.ref vl)
/-- two addresses apart, unseen by omega -/
def Ap (a b : Nat) : Prop := a ≠ b
theorem Ap.out {a b : Nat} (h : Ap a b) : a ≠ b := h
theorem Ap.lt {a b : Nat} (h : a < b) : Ap a b := Nat.ne_of_lt h
theorem Ap.gt {a b : Nat} (h : a < b) : Ap b a := Nat.ne_of_gt h
theorem News.re {h₀ h : Heap} {L : Addr} {a b : List (Addr × Obj)} (N : News h₀ L h a) (hs : ∀ p ∈ b, p ∈ a) : News h₀ L h b := fun p hp => N p (hs p hp)
theorem shift7 {q a1 a2 a3 a4 a5 a6 a7 : Addr × Obj} {tabs TT : List (Addr × Obj)} : ∀ p ∈ q :: a1 :: a2 :: a3 :: a4 :: a5 :: a6 :: a7 :: (tabs ++ TT), p ∈ (q :: tabs) ++ (a1 :: a2 :: a3 :: a4 :: a5 :: a6 :: a7 :: TT) := by
  intro p hp
  simp only [List.mem_cons, List.mem_append] at hp ⊢
  grind
theorem shift5 {q a1 a2 a3 a4 a5 : Addr × Obj} {tabs TT : List (Addr × Obj)} : ∀ p ∈ q :: a1 :: a2 :: a3 :: a4 :: a5 :: (tabs ++ TT), p ∈ (q :: tabs) ++ (a1 :: a2 :: a3 :: a4 :: a5 :: TT) := by
  intro p hp
  simp only [List.mem_cons, List.mem_append] at hp ⊢
  grind
theorem shift7' {a1 a2 a3 a4 a5 a6 a7 : Addr × Obj} {T TT : List (Addr × Obj)} : ∀ p ∈ a1 :: a2 :: a3 :: a4 :: a5 :: a6 :: a7 :: (T ++ TT), p ∈ T ++ (a1 :: a2 :: a3 :: a4 :: a5 :: a6 :: a7 :: TT) := by
  intro p hp
  simp only [List.mem_cons, List.mem_append] at hp ⊢
  grind
theorem shift5' {a1 a2 a3 a4 a5 : Addr × Obj} {T TT : List (Addr × Obj)} : ∀ p ∈ a1 :: a2 :: a3 :: a4 :: a5 :: (T ++ TT), p ∈ T ++ (a1 :: a2 :: a3 :: a4 :: a5 :: TT) := by
  intro p hp
  simp only [List.mem_cons, List.mem_append] at hp ⊢
  grind
theorem its_re {x y : Addr × Obj} {a b : List (Addr × Obj)} (hs : ∀ p ∈ b, p ∈ a) : ∀ p ∈ x :: y :: b, p ∈ [x, y] ++ a := fun p hp => by
  rcases List.mem_cons.mp hp with rfl | hp
  · exact List.mem_cons_self
  · rcases List.mem_cons.mp hp with rfl | hp
    · exact List.mem_cons_of_mem _ List.mem_cons_self
    · exact List.mem_cons_of_mem _ (List.mem_cons_of_mem _ (hs p hp))
section
variable {prog : Program} {w : World} {A : Around} {E : Value → Shared → Prop} {s : Shared} {env : Env} {h₀ : Heap} {target : Expr} {body : List Stmt} {Q : Flow → Shared → Prop}
theorem items_step {Jin Jout : (Str → Option Value) → List (Addr × Obj) → Prop} {ws : List (Addr × String)} {keep : List (Addr × Obj)} {a : Itm} {xs : List Itm}
    (step : ∀ m news, Jin m news → ∀ v h tk, a.Is v h → Fr h₀ env.locals h m → AllObj ws (fun its => News h₀ env.locals h (its ++ news) →
      wpAny (model prog w) A (assign target env v) (fun _ s₂ => wpAny (model prog w) A (execs body env) (UnrPostW h₀ env.locals { s with heap := h, toks := tk } its (fun m' n' => SubL keep n' ∧ Jout m' n') Q) E s₂) E { s with heap := h, toks := tk }))
    (r : ∀ m news, Jout m news → ItemsRest prog w A E h₀ env target body Q s ws keep xs m news) : ∀ m news, Jin m news → ItemsRest prog w A E h₀ env target body Q s ws keep (a :: xs) m news := fun m news hJ v h tk hv F => by
  have one := step m news hJ v h tk hv F
  revert one
  have gen : ∀ (ws' : List (Addr × String)) (k1 k2 : List (Addr × Obj) → Prop), (∀ its, k1 its → k2 its) → AllObj ws' k1 → AllObj ws' k2 := by
    intro ws'
    induction ws' with
    | nil => exact fun k1 k2 hk h => hk _ h
    | cons x r' ih' => exact fun k1 k2 hk h o ho => ih' _ _ (fun its h => hk _ h) (h o ho)
  refine gen _ _ _ fun its h1 N => wpAny_mono (h1 N) (fun _ s₂ h2 => wpAny_mono h2 (fun fl s₃ p => ?_) fun _ _ e => e) fun _ _ e => e
  have fin : UnrEndW h₀ env.locals { s with heap := h, toks := tk } its (fun m' n' => SubL keep n' ∧ Jout m' n') s₃ → UnrEndW h₀ env.locals { s with heap := h, toks := tk } its (fun m' n' => SubL keep n' ∧ ItemsRest prog w A E h₀ env target body Q s ws keep xs m' n') s₃ := by
    rintro ⟨h', tk', m', n', e, F', N', ho, hk, hj⟩
    exact ⟨h', tk', m', n', e, F', N', ho, hk, r m' n' hj⟩
  cases fl with
  | ret v => exact p
  | brk => exact p
  | next => exact fin p
  | cont => exact fin p
theorem items_end {J : (Str → Option Value) → List (Addr × Obj) → Prop} {ws : List (Addr × String)} {keep : List (Addr × Obj)}
    (hz : ∀ m news, J m news → ∀ h tk, Fr h₀ env.locals h m → News h₀ env.locals h news → Q .next { s with heap := h, toks := tk }) : ∀ m news, J m news → ItemsRest prog w A E h₀ env target body Q s ws keep [] m news := hz
end
/-- a turn's end: what stands is handed on -/
theorem turn_endJ {h₀ : Heap} {L I : Addr} {s₁ : Shared} {o1 o2 : Obj} {led keep : List (Addr × Obj)} {J : (Str → Option Value) → List (Addr × Obj) → Prop} {h' : Heap} {tk : Nat} {m' : Str → Option Value}
    (F : Fr h₀ L h' m') (N : News h₀ L h' ((I + 1, o1) :: (I, o2) :: led)) (h6 : ∀ p ∈ led, p.1 ≠ I) (h7 : ∀ p ∈ led, p.1 ≠ I + 1) (hk : SubL keep led) (hj : J m' led) :
    UnrEndW h₀ L s₁ [((I + 1, "enumerate").1, o1), ((I, "list_iterator").1, o2)] (fun m' n' => SubL keep n' ∧ J m' n') { s₁ with heap := h', toks := tk } :=
  ⟨h', tk, m', led, rfl, F, N, (fun p hp q hq => by
    rcases List.mem_cons.mp hq with rfl | hq
    · exact h7 p hp
    · rcases List.mem_cons.mp hq with rfl | hq
      · exact h6 p hp
      · cases hq), hk, hj⟩
section
variable {prog : Program} {w : World} {A : Around} {E : Value → Shared → Prop} {s : Shared} {env : Env} {h₀ : Heap} {target : Expr} {body : List Stmt} {Q : Flow → Shared → Prop}
/-- four turns by one -/
theorem kind_turns {J : Nat → (Str → Option Value) → List (Addr × Obj) → Prop} {vals : Nat → Value} {ws : List (Addr × String)} {keep : List (Addr × Obj)} {xs : List Itm}
    (gen : ∀ i : Nat, i < 4 → ∀ m news, J i m news → ∀ v h tk, (Itm.pair (fun t => Value.int (i : Int) t) (vals i)).Is v h → Fr h₀ env.locals h m → AllObj ws (fun its => News h₀ env.locals h (its ++ news) →
      wpAny (model prog w) A (assign target env v) (fun _ s₂ => wpAny (model prog w) A (execs body env) (UnrPostW h₀ env.locals { s with heap := h, toks := tk } its (fun m' n' => SubL keep n' ∧ J (i + 1) m' n') Q) E s₂) E { s with heap := h, toks := tk }))
    (r : ∀ m news, J 4 m news → ItemsRest prog w A E h₀ env target body Q s ws keep xs m news) :
    ∀ m news, J 0 m news → ItemsRest prog w A E h₀ env target body Q s ws keep (.pair (fun t => Value.int ((0 : Nat) : Int) t) (vals 0) :: .pair (fun t => Value.int ((1 : Nat) : Int) t) (vals 1) :: .pair (fun t => Value.int ((2 : Nat) : Int) t) (vals 2) :: .pair (fun t => Value.int ((3 : Nat) : Int) t) (vals 3) :: xs) m news :=
  items_step (gen 0 (by decide)) (items_step (gen 1 (by decide)) (items_step (gen 2 (by decide)) (items_step (gen 3 (by decide)) r)))
end
section
variable {w : World} {p : Program} {lo : List Str} {mean : ExcName → Option Value} {mg mb : Str → Option Value} {gd gdd : Option (List Code)} {cn : Str} {cs : Scope} {a L : Addr} {ccd : Value} {cl : List (Str × Addr)} {outer : List Env} {A₀ : Around} {base h₀ : Heap} {m : Str → Option Value} {s : Shared} {Q E : Value → Shared → Prop} {rest led : List (Addr × Obj)}
local macro_rules | `(tactic| k_all) => `(tactic| assumption)
local macro_rules | `(tactic| k_in) => `(tactic| (refine' Frag.In.keeps ?kiX (Fr.keep ?kiF); (case kiF => k_asm); (case kiX => with_reducible assumption)))
-- names: by the kernel, not by the elaborator's unfolding of texts
local macro_rules | `(tactic| walk_at "eval Name") => `(tactic| (k_here; k_dflt (first
  | (refine' nm_L ?F ?hx ?hk ?hd ?hv ?_; (case F => k_asm); (case hx => kernel_rfl!); (case hk => exact rfl); (case hd => kernel_rfl!);
     (case hv => (repeat (first
       | with_reducible exact lk_hit
       | with_reducible exact lki_hit
       | (with_reducible refine' lk_miss ?n ?_; (case n => kernel_rfl!))
       | (with_reducible refine' lki_miss ?n ?_; (case n => kernel_rfl!))
       | with_reducible assumption)))
     k_whole)
  | (refine' nm_K ?F ?hx ?hk ?hd ?X ?T ?e ?_; (case F => k_asm); (case hx => kernel_rfl!); (case hk => exact rfl); (case hd => kernel_rfl!); (case X => k_asm); (case T => k_asm); (case e => k_is); k_whole)
  | (refine' nm_B ?F ?hx ?hk ?hd ?X ?T ?e ?v ?n ?_; (case F => k_asm); (case hx => kernel_rfl!); (case hk => exact rfl); (case hd => kernel_rfl!); (case X => k_asm); (case T => k_asm); (case e => k_is); (case v => boot_fast); (case n => decide +kernel); k_whole))))
local macro_rules | `(tactic| walk_at "storeName") => `(tactic| (k_here; k_dflt (
  refine' st_L ?F ?N ?hx ?hk ?_; (case F => k_asm); (case N => k_asm); (case hx => kernel_rfl!); (case hk => exact rfl); k_whole; intro h' tk' F' N'; (try k_sweep))))
local macro_rules | `(tactic| walk_at "call ref") => `(tactic| (k_here; k_dflt (refine wpAny_call ?_; refine' enter_pos ?k1 ?k2 ?k3 ?k4 ?k5 ?kA ?kF ?kK ?k6 ?k7 ?k8 ?k9 ?kB ?c2 ?c3 ?c4 ?c5 ?_; (case kA => exact rfl); (case kF => exact rfl); (case kK => first | exact rfl | assumption); (case k1 => k_asm); (case k2 => k_asm); (case k3 => k_asm); (case k4 => k_asm); (case k5 => k_asm); (case k6 => k_is); (case k7 => k_is); (case k8 => exact Nat.le_of_ble_eq_true rfl); (case k9 => kernel_rfl!); (case kB => kernel_rfl!); (case c2 => exact rfl); (case c3 => exact rfl); (case c4 => exact rfl); (case c5 => kernel_rfl!); k_whole; intro g' L' h' tk' FG' F' N' B' X' T'; (try dsimp only [List.map, List.zip, List.zipWith, List.reverse, List.reverseAux] at F'); (try dsimp only); (try k_fold))))
local macro_rules | `(tactic| walk_at "call ref") => `(tactic| (k_here; k_dflt (refine' call_cls ?k1 ?k2 ?k3 ?k4 ?k5 ?k6 ?_; (case k1 => k_asm); (case k2 => k_asm); (case k3 => k_asm); (case k4 => k_is); (case k5 => k_is); (case k6 => k_is); k_whole; intro x' d' h' F' N' l1 l2; (try k_lt l1); (try k_lt2 l2); (try k_sweep); refine' enter_pos ?k1 ?k2 ?k3 ?k4 ?k5 ?kA ?kF ?kK ?k6 ?k7 ?k8 ?k9 ?kB ?c2 ?c3 ?c4 ?c5 ?_; (case kA => exact rfl); (case kF => exact rfl); (case kK => first | exact rfl | assumption); (case k1 => k_asm); (case k2 => k_asm); (case k3 => k_asm); (case k4 => k_asm); (case k5 => k_asm); (case k6 => k_is); (case k7 => k_is); (case k8 => exact Nat.le_of_ble_eq_true rfl); (case k9 => kernel_rfl!); (case kB => kernel_rfl!); (case c2 => exact rfl); (case c3 => exact rfl); (case c4 => exact rfl); (case c5 => kernel_rfl!); k_whole; intro g' L' h' tk' FG' F' N' B' X' T'; (try dsimp only [List.map, List.zip, List.zipWith, List.reverse, List.reverseAux] at F'); (try dsimp only); (try k_fold))))
local macro_rules | `(tactic| walk_at "binaryOp BitAnd int int") => `(tactic| first | (with_reducible refine and_mask ?_; intro r' hr0' hr1') | (with_reducible refine and_none ?hy ?_; (case hy => first | rfl | decide | omega)))
local macro_rules | `(tactic| walk_at "binaryOp LShift int int") => `(tactic| (with_reducible refine shl_one ?_))
local macro_rules | `(tactic| walk_at "CompSrc") => `(tactic| (k_here; k_dflt (refine LCg.CompSrc.range (by rfl) (by k_asm) (by k_asm) (by assumption) (by first | decide | rfl) (by first | rfl | decide) (by first | size_fits | exact Nat.le_of_ble_eq_true rfl) ?_; intro g'; lcg_lit)))
local macro_rules | `(tactic| walk_at "binaryOp LShift int int") => `(tactic| (with_reducible refine shl5 ?h0 ?h1 ?_; (case h0 => assumption); (case h1 => assumption); intro v'))
local macro_rules | `(tactic| walk_at "binaryOp RShift int int") => `(tactic| (with_reducible refine shr2 ?_; intro v'))
local macro_rules | `(tactic| walk_at "binaryOp BitXor int int") => `(tactic| (with_reducible refine xor_any ?_; intro v'))

section
local macro_rules | `(tactic| walk_at "eval Name") => `(tactic| (k_here; k_dflt (refine' nm_L ?F ?hx ?hk ?hd ?hv ?_; (case F => k_asm); (case hx => kernel_rfl!); (case hk => exact rfl); (case hd => kernel_rfl!); (case hv => ((try dsimp only); (repeat (first | with_reducible exact lk_hit | with_reducible exact lki_hit | (with_reducible refine' Eq.trans (lk_skip ?n) ?_; (case n => kernel_rfl!)) | (with_reducible refine' Eq.trans (lki_skip ?n) ?_; (case n => kernel_rfl!)) | with_reducible assumption)))); k_whole)))
section
variable {prog : Program} {A : Around} {env : Env} {test : PySem.Expr} {body orelse : List Stmt} {x : Int} {t u : Tok}
/-- a while that counts down -/
theorem whl_down {QF : Flow → Shared → Prop} {E : Value → Shared → Prop} {s : Shared} {J : Nat → Heap → Prop} {k : Nat}
    (turn : ∀ i h tk, J (i + 1) h → (∀ h' tk', J i h' → WhlRest prog w A E env test body orelse QF k { s with heap := h', toks := tk' }) → WhlRest prog w A E env test body orelse QF (k + 1) { s with heap := h, toks := tk })
    (zero : ∀ h tk, J 0 h → WhlRest prog w A E env test body orelse QF (k + 1) { s with heap := h, toks := tk }) : ∀ i h tk, J i h → WhlRest prog w A E env test body orelse QF k { s with heap := h, toks := tk }
  | 0, h, tk, hj => zero h tk hj
  | i + 1, h, tk, hj => turn i h tk hj fun h' tk' hj' => whl_down turn zero i h' tk' hj'
theorem shr5 {E : Value → Shared → Prop} {Q : Value → Shared → Prop} (h0 : 0 ≤ x) (h1 : x < 32) (h : Q (.int 0 s.toks) { s with toks := s.toks + 1 }) :
    wpAny (model prog w) A (binaryOp .RShift (.int x t) (.int 5 u)) Q E s := by
  refine rshift_int (by decide) ?_
  have e : x.fdiv (2 ^ (5 : Int).toNat) = 0 := by
    rw [Int.fdiv_eq_ediv_of_nonneg _ (by decide)]
    exact Int.ediv_eq_zero_of_lt h0 h1
  rw [e]; exact h
end
/-- the hash's state, i texts' signs ahead of it -/
def HashJ (g : Heap) (L1 : Addr) (tx : Array UInt8) (tkk : Tok) (n i : Nat) (h : Heap) : Prop := ∃ m' fv t1 t2 t3, i ≤ n ∧ Fr g L1 h m' ∧ m' (PySem.Str.ofString "found") = some (.int fv t1) ∧ m' (PySem.Str.ofString "at") = some (.int (i : Int) t2) ∧ m' (PySem.Str.ofString "step") = some (.int (0 + 1) t3) ∧ m' (PySem.Str.ofString "text") = some (.bytes tx tkk) ∧ 0 ≤ fv ∧ fv < 4294967296
theorem HashJ.mk {g h : Heap} {L1 : Addr} {tx : Array UInt8} {tkk : Tok} {n i : Nat} {m' : Str → Option Value} {fv : Int} {t1 t2 t3 : Tok} (F : Fr g L1 h m') (h0 : i ≤ n) (h1 : m' (PySem.Str.ofString "found") = some (.int fv t1)) (h2 : m' (PySem.Str.ofString "at") = some (.int (i : Int) t2)) (h3 : m' (PySem.Str.ofString "step") = some (.int (0 + 1) t3)) (h4 : m' (PySem.Str.ofString "text") = some (.bytes tx tkk)) (h5 : 0 ≤ fv) (h6 : fv < 4294967296) : HashJ g L1 tx tkk n i h :=
  ⟨m', fv, t1, t2, t3, h0, F, h1, h2, h3, h4, h5, h6⟩
theorem at_less {i : Nat} {t : Tok} : Value.int (((i + 1 : Nat) : Int) - (0 + 1)) t = Value.int (i : Int) t := congrArg (fun q => Value.int q t) (by omega)
local macro_rules | `(tactic| walk_at "binaryOp RShift int int") => `(tactic| (with_reducible refine shr5 ?h0 ?h1 ?_; (case h0 => omega); (case h1 => (simp only [List.size_toArray]; omega))))
local macro_rules | `(tactic| walk_at "exec While Compare cons nil") => `(tactic| (k_here; k_dflt (refine whl_start 0 ?_)))
local macro_rules | `(tactic| walk_at "WhlRest") => `(tactic| refine halt ?_)
theorem c_hash0 {l : List UInt8} {tkk : Tok} (hl : l.length < 32)
    (B : Below A₀ base outer h₀) (F : Fr h₀ L s.heap m) (X : (KK w.params).In h₀)
    (N : News h₀ L s.heap led) (T : Top p lo mean mg mb h₀) (hk : cs.kind = .function)
    (ret : ∀ (r : Int) (t : Tok) (h' : Heap) (tk' : Nat), 0 ≤ r → r < 4294967296 → Fr h₀ L h' m → News h₀ L h' led → Q (.int r t) { s with heap := h', toks := tk' }) :
    wpAny (model PySem.Challenge.rw_rh0165_01.row.prog w) (topA 600 6000 gd cn cs L a ccd cl outer) (call (.ref 154) [.bytes l.toArray tkk]) Q E s := by
  revert X; k_fill; intro X
  refine wpAny_call ?_
  have hs : ∀ q ∈ [], q ∈ led := by repeat (first | exact List.forall_mem_nil _ | with_reducible assumption | refine List.forall_mem_cons.mpr ⟨by assumption, ?_⟩)
  w_strict (k_dflt (refine' enter_ro [("text", .bytes l.toArray tkk)] _ B F X N hs T ?kA ?kF ?kK ?k6 ?k7 ?k8 ?k9 ?kB ?c2 ?c3 ?c4 ?c5 ?_; (case kA => exact rfl); (case kF => exact rfl); (case kK => first | exact rfl | assumption); (case k6 => k_is); (case k7 => k_is); (case k8 => exact Nat.le_of_ble_eq_true rfl); (case k9 => exact BindsTo.of_eq (by kernel_rfl!)); (case kB => kernel_rfl!); (case c2 => exact rfl); (case c3 => exact rfl); (case c4 => exact rfl); (case c5 => kernel_rfl!); k_whole; intro g L1 h1 tk1 HK FG F1 N1 B1 X1 T1; (try dsimp only); (try k_fold)))
  k_steps
  refine Halt.mk ?_
  generalize hn : l.toArray.size = n at *
  have hlen : n = l.length := hn.symm
  rename Fr g L1 _ _ => F2
  refine whl_down (J := HashJ g L1 l.toArray tkk n) ?turn ?zero n _ _ ⟨_, _, _, _, _, Nat.le_refl _, F2, (by (try dsimp only); (repeat (first | with_reducible exact lki_hit | with_reducible exact lk_hit | (with_reducible refine' Eq.trans (lki_skip ?n) ?_; (case n => kernel_rfl!)) | (with_reducible refine' Eq.trans (lk_skip ?n) ?_; (case n => kernel_rfl!)) | with_reducible assumption))), (by (try dsimp only); (repeat (first | with_reducible exact lki_hit | with_reducible exact lk_hit | (with_reducible refine' Eq.trans (lki_skip ?n) ?_; (case n => kernel_rfl!)) | (with_reducible refine' Eq.trans (lk_skip ?n) ?_; (case n => kernel_rfl!)) | with_reducible assumption))), (by (try dsimp only); (repeat (first | with_reducible exact lki_hit | with_reducible exact lk_hit | (with_reducible refine' Eq.trans (lki_skip ?n) ?_; (case n => kernel_rfl!)) | (with_reducible refine' Eq.trans (lk_skip ?n) ?_; (case n => kernel_rfl!)) | with_reducible assumption))), (by (try dsimp only); (repeat (first | with_reducible exact lki_hit | with_reducible exact lk_hit | (with_reducible refine' Eq.trans (lki_skip ?n) ?_; (case n => kernel_rfl!)) | (with_reducible refine' Eq.trans (lk_skip ?n) ?_; (case n => kernel_rfl!)) | with_reducible assumption))), by assumption, by assumption⟩
  case turn =>
    rintro i h tk ⟨m', fv, t1, t2, t3, hi, F1, hm1, hm2, hm3, hm4, hf0, hf1⟩ ih
    have N1 : News g L1 h [] := fun q hq => nomatch hq
    clear F2
    refine whl_turn (by first | passes_own | with_unfolding_all passes_own) ?_
    k_steps
    refine WhlIf.yes (decide_eq_true (by omega)) ?_
    have hb0 : 0 ≤ ((i + 1 : Nat) : Int) - 1 := by omega
    have hb1 : ((i + 1 : Nat) : Int) - 1 < l.length := by omega
    k_steps
    refine Halt.mk ?_
    refine' ih _ _ (HashJ.mk ?z1 ?z0 ?z2 ?z3 ?z4 ?z5 ?z6 ?z7)
    case z1 => k_asm
    case z0 => omega
    case z2 => exact (by (try dsimp only); (repeat (first | with_reducible exact lki_hit | (with_reducible refine' Eq.trans (lki_skip ?n) ?_; (case n => kernel_rfl!)) | with_reducible assumption)))
    case z3 => rw [← at_less]; exact (by (try dsimp only); (repeat (first | with_reducible exact lki_hit | (with_reducible refine' Eq.trans (lki_skip ?n) ?_; (case n => kernel_rfl!)) | with_reducible assumption)))
    case z4 => exact (by (try dsimp only); (repeat (first | with_reducible exact lki_hit | (with_reducible refine' Eq.trans (lki_skip ?n) ?_; (case n => kernel_rfl!)) | with_reducible assumption)))
    case z5 => exact (by (try dsimp only); (repeat (first | with_reducible exact lki_hit | (with_reducible refine' Eq.trans (lki_skip ?n) ?_; (case n => kernel_rfl!)) | with_reducible assumption)))
    case z6 => assumption
    case z7 => assumption
  case zero =>
    rintro h tk ⟨m', fv, t1, t2, t3, hi, F1, hm1, hm2, hm3, hm4, hf0, hf1⟩
    have N1 : News g L1 h [] := fun q hq => nomatch hq
    clear F2
    refine whl_turn (by first | passes_own | with_unfolding_all passes_own) ?_
    k_steps
    exact ret _ _ _ _ hf0 hf1 (by k_asm) (led_back HK N hs F1 N1)
theorem c_hash {key : Array UInt8} {tkk : Tok}
    (B : Below A₀ base outer h₀) (F : Fr h₀ L s.heap m) (X : (KK w.params).In h₀)
    (N : News h₀ L s.heap rest) (T : Top p lo mean mg mb h₀) (hk : cs.kind = .function)
    (hkey : key = #[95, 95, 108, 101, 110] ∨ key = #[95, 95, 105, 110, 100, 101, 120])
    (ret : ∀ (r : Int) (t : Tok) (h' : Heap) (tk' : Nat), 0 ≤ r → r < 4294967296 → Fr h₀ L h' m → News h₀ L h' rest → Q (.int r t) { s with heap := h', toks := tk' }) :
    wpAny (model PySem.Challenge.rw_rh0165_01.row.prog w) (topA 600 6000 gd cn cs L a ccd cl outer) (call (.ref 154) [.bytes key tkk]) Q E s := by
  rcases hkey with rfl | rfl
  · exact c_hash0 (by decide) B F X N T hk ret
  · exact c_hash0 (by decide) B F X N T hk ret
end
section
theorem c_count_array {x d la ln c : Addr} {num : Value} {t0 t1 t2 t3 t4 t5 t6 t7 t8 t9 u1 u2 u4 u5 u8 u9 : Tok} {na : Nat} {sz lg fr : Int}
    (B : Below A₀ base outer h₀) (F : Fr h₀ L s.heap m) (X : (KK w.params).In h₀)
    (N : News h₀ L s.heap led) (T : Top p lo mean mg mb h₀) (hk : cs.kind = .function)
    (mx : (x, instObj 491 d) ∈ led) (md : (d, dictOf (tabE w t0 t1 t2 t3 t4 t5 t6 t7 t8 t9 u1 u2 u4 u5 u8 u9 num sz la ln lg fr) 10) ∈ led) (ml : (la, listOf #[] na) ∈ led)
    (ret : ∀ (t : Tok) (h' : Heap) (tk' : Nat), Fr h₀ L h' m → News h₀ L h' led → Q (.int 0 t) { s with heap := h', toks := tk' }) :
    wpAny (model PySem.Challenge.rw_rh0165_01.row.prog w) (topA 600 6000 gd cn cs L a ccd cl outer) (call (.ref 391) [.ref x, .ref c]) Q E s := by
  revert X; k_fill; intro X
  refine wpAny_call ?_
  have hs : ∀ q ∈ [(la, listOf #[] na), (x, instObj 491 d), (d, dictOf (tabE w t0 t1 t2 t3 t4 t5 t6 t7 t8 t9 u1 u2 u4 u5 u8 u9 num sz la ln lg fr) 10)], q ∈ led := by repeat (first | exact List.forall_mem_nil _ | with_reducible assumption | refine List.forall_mem_cons.mpr ⟨by assumption, ?_⟩)
  w_strict (k_dflt (refine' enter_ro [("counts", .ref c), ("self", .ref x)] _ B F X N hs T ?kA ?kF ?kK ?k6 ?k7 ?k8 ?k9 ?kB ?c2 ?c3 ?c4 ?c5 ?_; (case kA => exact rfl); (case kF => exact rfl); (case kK => first | exact rfl | assumption); (case k6 => k_is); (case k7 => k_is); (case k8 => exact Nat.le_of_ble_eq_true rfl); (case k9 => exact BindsTo.of_eq (by kernel_rfl!)); (case kB => kernel_rfl!); (case c2 => exact rfl); (case c3 => exact rfl); (case c4 => exact rfl); (case c5 => kernel_rfl!); k_whole; intro g L1 h1 tk1 HK FG F1 N1 B1 X1 T1; (try dsimp only); (try k_fold)))
  k_with "pyIter ref" => kf1_first
  k_steps
  k_with_none
  exact ret _ _ _ (by k_asm) (led_back HK N hs (by k_asm) (cb_drop (by k_asm) (by kcj_all)))
theorem c_count_nodes {z x d la ln c : Addr} {num : Value} {t0 t1 t2 t3 t4 t5 t6 t7 t8 t9 u1 u2 u4 u5 u8 u9 : Tok} {na : Nat} {oz : Obj} {sz lg fr : Int}
    (B : Below A₀ base outer h₀) (F : Fr h₀ L s.heap m) (X : (KK w.params).In h₀)
    (N : News h₀ L s.heap led) (T : Top p lo mean mg mb h₀) (hk : cs.kind = .function) (mz : (z, oz) ∈ led) (hz : ∀ p ∈ led, p.1 ≤ z)
    (mx : (x, instObj 491 d) ∈ led) (md : (d, dictOf (tabE w t0 t1 t2 t3 t4 t5 t6 t7 t8 t9 u1 u2 u4 u5 u8 u9 num sz la ln lg fr) 10) ∈ led) (ml : (ln, listOf #[] na) ∈ led)
    (ret : ∀ (q : Addr) (t t' : Tok) (h' : Heap) (tk' : Nat), (∀ p ∈ led, p.1 < q) → Fr h₀ L h' m → News h₀ L h' ((q, tupOf #[.int 0 t, .int 0 t']) :: led) → Q (.ref q) { s with heap := h', toks := tk' }) :
    wpAny (model PySem.Challenge.rw_rh0165_01.row.prog w) (topA 600 6000 gd cn cs L a ccd cl outer) (call (.ref 398) [.ref x, .ref c]) Q E s := by
  revert X; k_fill; intro X
  refine wpAny_call ?_
  have hs : ∀ q ∈ [(z, oz), (ln, listOf #[] na), (x, instObj 491 d), (d, dictOf (tabE w t0 t1 t2 t3 t4 t5 t6 t7 t8 t9 u1 u2 u4 u5 u8 u9 num sz la ln lg fr) 10)], q ∈ led := by repeat (first | exact List.forall_mem_nil _ | with_reducible assumption | refine List.forall_mem_cons.mpr ⟨by assumption, ?_⟩)
  w_strict (k_dflt (refine' enter_ro [("counts", .ref c), ("self", .ref x)] _ B F X N hs T ?kA ?kF ?kK ?k6 ?k7 ?k8 ?k9 ?kB ?c2 ?c3 ?c4 ?c5 ?_; (case kA => exact rfl); (case kF => exact rfl); (case kK => first | exact rfl | assumption); (case k6 => k_is); (case k7 => k_is); (case k8 => exact Nat.le_of_ble_eq_true rfl); (case k9 => exact BindsTo.of_eq (by kernel_rfl!)); (case kB => kernel_rfl!); (case c2 => exact rfl); (case c3 => exact rfl); (case c4 => exact rfl); (case c5 => kernel_rfl!); k_whole; intro g L1 h1 tk1 HK FG F1 N1 B1 X1 T1; (try dsimp only); (try k_fold)))
  k_steps
  rename_i kN _ _
  exact ret _ _ _ _ _ (lt_top hz (by omega)) (by k_asm) (news_app (a := [_]) (cb_drop kN (by kcj_all)) (led_back HK N hs (by k_asm) (cb_drop (by k_asm) (by kcj_all))))
theorem c_sizes {z c : Addr} {tc tkk : Tok} {wz : Int} {oz : Obj}
    (B : Below A₀ base outer h₀) (F : Fr h₀ L s.heap m) (X : (KK w.params).In h₀)
    (N : News h₀ L s.heap led) (T : Top p lo mean mg mb h₀) (hk : cs.kind = .function) (mz : (z, oz) ∈ led) (hz : ∀ p ∈ led, p.1 ≤ z)
    (hw : wz = 0) (mc : (c, listOf #[.int 0 tc, .int 0 tc, .int 0 tc, .int 0 tc, .int 0 tc, .int 0 tc, .int 0 tc, .int 0 tc, .int 0 tc, .int 0 tc, .int 0 tc, .int 0 tc, .int 0 tc, .int 0 tc, .int 0 tc, .int 0 tc, .int 0 tc, .int 0 tc, .int 0 tc, .int 0 tc, .int 0 tc, .int 0 tc, .int 0 tc, .int 0 tc, .int 0 tc, .int 0 tc, .int 0 tc] 0) ∈ led)
    (ret : ∀ (q : Addr) (t t' : Tok) (h' : Heap) (tk' : Nat), (∀ p ∈ led, p.1 < q) → Fr h₀ L h' m → News h₀ L h' ((q, tupOf #[.int 0 t, .int 0 t']) :: led) → Q (.ref q) { s with heap := h', toks := tk' }) :
    wpAny (model PySem.Challenge.rw_rh0165_01.row.prog w) (topA 600 6000 gd cn cs L a ccd cl outer) (call (.ref 278) [.ref c, .int wz tkk]) Q E s := by
  revert X; k_fill; intro X
  subst hw
  refine wpAny_call ?_
  have hs : ∀ q ∈ [(z, oz), (c, listOf #[.int 0 tc, .int 0 tc, .int 0 tc, .int 0 tc, .int 0 tc, .int 0 tc, .int 0 tc, .int 0 tc, .int 0 tc, .int 0 tc, .int 0 tc, .int 0 tc, .int 0 tc, .int 0 tc, .int 0 tc, .int 0 tc, .int 0 tc, .int 0 tc, .int 0 tc, .int 0 tc, .int 0 tc, .int 0 tc, .int 0 tc, .int 0 tc, .int 0 tc, .int 0 tc, .int 0 tc] 0)], q ∈ led := by repeat (first | exact List.forall_mem_nil _ | with_reducible assumption | refine List.forall_mem_cons.mpr ⟨by assumption, ?_⟩)
  w_strict (k_dflt (refine' enter_ro [("wanted", .int 0 tkk), ("counts", .ref c)] _ B F X N hs T ?kA ?kF ?kK ?k6 ?k7 ?k8 ?k9 ?kB ?c2 ?c3 ?c4 ?c5 ?_; (case kA => exact rfl); (case kF => exact rfl); (case kK => first | exact rfl | assumption); (case k6 => k_is); (case k7 => k_is); (case k8 => exact Nat.le_of_ble_eq_true rfl); (case k9 => exact BindsTo.of_eq (by kernel_rfl!)); (case kB => kernel_rfl!); (case c2 => exact rfl); (case c3 => exact rfl); (case c4 => exact rfl); (case c5 => kernel_rfl!); k_whole; intro g L1 h1 tk1 HK FG F1 N1 B1 X1 T1; (try dsimp only); (try k_fold)))
  k_steps
  rename_i kN _ _
  exact ret _ _ _ _ _ (lt_top hz (by omega)) (by k_asm) (news_app (a := [_]) (cb_drop kN (by kcj_all)) (led_back HK N hs (by k_asm) (cb_drop (by k_asm) (by kcj_all))))
end
section
theorem c_clog {n : Int} {tkk : Tok}
    (B : Below A₀ base outer h₀) (F : Fr h₀ L s.heap m) (X : (KK w.params).In h₀)
    (N : News h₀ L s.heap led) (T : Top p lo mean mg mb h₀) (hk : cs.kind = .function)
    (hn : n = 1)
    (ret : ∀ (t : Tok) (h' : Heap) (tk' : Nat), Fr h₀ L h' m → News h₀ L h' led → Q (.int 0 t) { s with heap := h', toks := tk' }) :
    wpAny (model PySem.Challenge.rw_rh0165_01.row.prog w) (topA 600 6000 gd cn cs L a ccd cl outer) (call (.ref 168) [.int n tkk]) Q E s := by
  revert X; k_fill; intro X
  subst hn
  refine wpAny_call ?_
  have hs : ∀ q ∈ [], q ∈ led := by repeat (first | exact List.forall_mem_nil _ | with_reducible assumption | refine List.forall_mem_cons.mpr ⟨by assumption, ?_⟩)
  w_strict (k_dflt (refine' enter_ro [("n", .int 1 tkk)] _ B F X N hs T ?kA ?kF ?kK ?k6 ?k7 ?k8 ?k9 ?kB ?c2 ?c3 ?c4 ?c5 ?_; (case kA => exact rfl); (case kF => exact rfl); (case kK => first | exact rfl | assumption); (case k6 => k_is); (case k7 => k_is); (case k8 => exact Nat.le_of_ble_eq_true rfl); (case k9 => exact BindsTo.of_eq (by kernel_rfl!)); (case kB => kernel_rfl!); (case c2 => exact rfl); (case c3 => exact rfl); (case c4 => exact rfl); (case c5 => kernel_rfl!); k_whole; intro g L1 h1 tk1 HK FG F1 N1 B1 X1 T1; (try dsimp only); (try k_fold)))
  k_steps
  exact ret _ _ _ (by k_asm) (led_back HK N hs (by k_asm) (by k_asm))
end
section
theorem c_next {r l : Addr} {t : Int} {tk tkk : Tok} {n n2 : Nat} {vs : List Value} {ns : List Int} {k : Int}
    (B : Below A₀ base outer h₀) (F : Fr h₀ L s.heap m) (X : (KK w.params).In h₀)
    (N : News h₀ L s.heap led) (T : Top p lo mean mg mb h₀) (hk : cs.kind = .function)
    (mr : (r, listOf #[.ref l, .int t tk] n) ∈ led) (ml : (l, listOf vs.toArray n2) ∈ led)
    (hI : IntsAre vs ns) (hlen : ns.length ≤ 30) (ht : 0 ≤ t) (ht2 : t ≤ 100) (hk0 : 0 < k) (hk1 : k ≤ 10) (hr : @Ne Nat l r)
    (ret : ∀ (v : Int) (t1 t2 : Tok) (h' : Heap) (tk' : Nat), 0 ≤ v → v < k → Fr h₀ L h' m → (∀ led', Upd r (listOf #[.ref l, .int t tk] n) (listOf #[.ref l, .int (t + 1) t1] n) led led' → News h₀ L h' led') → Q (.int v t2) { s with heap := h', toks := tk' }) :
    wpAny (model PySem.Challenge.rw_rh0165_01.row.prog w) (topA 500 4000 gd cn cs L a ccd cl outer) (call (.ref 542) [.ref r, .int k tkk]) Q E s := by
  revert X; k_fill; intro X
  refine wpAny_call ?_
  have hs : ∀ q ∈ [(r, listOf #[.ref l, .int t tk] n), (l, listOf vs.toArray n2)], q ∈ led := by repeat (first | exact List.forall_mem_nil _ | with_reducible assumption | refine List.forall_mem_cons.mpr ⟨by assumption, ?_⟩)
  w_strict (k_dflt (refine' enter_ro [("many", .int k tkk), ("rope", .ref r)] _ B F X N hs T ?kA ?kF ?kK ?k6 ?k7 ?k8 ?k9 ?kB ?c2 ?c3 ?c4 ?c5 ?_; (case kA => exact rfl); (case kF => exact rfl); (case kK => first | exact rfl | assumption); (case k6 => k_is); (case k7 => k_is); (case k8 => exact Nat.le_of_ble_eq_true rfl); (case k9 => exact BindsTo.of_eq (by kernel_rfl!)); (case kB => kernel_rfl!); (case c2 => exact rfl); (case c3 => exact rfl); (case c4 => exact rfl); (case c5 => kernel_rfl!); k_whole; intro g L1 h1 tk1 HK FG F1 N1 B1 X1 T1; (try dsimp only); (try k_fold)))
  k_steps
  all_goals exact ret _ _ _ _ _ (Int.fmod_nonneg_of_pos _ hk0) (Int.fmod_lt_of_pos _ hk0) (by k_asm) (fun led' U => led_upd HK N hs (by k_asm) (by k_asm) led' U)
end
section
local macro_rules | `(tactic| walk_at "call ref") => `(tactic| (k_here; (with_reducible show wpAny _ _ (call (Value.ref 154) _) _ _ _); k_dflt (refine' use_ctr (c_hash ?k1 ?k2 ?k3 ?k4 ?k5 ?kK ?hkey ?_) ?e ?d ?u; (case e => exact rfl); (case d => exact Nat.le_of_ble_eq_true rfl); (case u => exact Nat.le_of_ble_eq_true rfl); (case k1 => k_asm); (case k2 => k_asm); (case k3 => k_asm); (case k4 => k_asm); (case k5 => k_asm); (case kK => first | exact rfl | assumption); (case hkey => assumption); k_whole; intro r' t' h' tk' hr0' hr1' F' N'; (try k_sweep); (try dsimp only))))
local macro_rules | `(tactic| k_handed) => `(tactic| with_reducible assumption)
theorem c_get_hit {x d la l2 n2 d2 : Addr} {num val : Value} {tkk tk2 : Tok} {t0 t1 t2 t3 t4 t5 t6 t7 t8 t9 u1 u2 u4 u5 u8 u9 k0 k1 k2 k3 : Tok} {nn : Nat} {sz : Int}
    (B : Below A₀ base outer h₀) (F : Fr h₀ L s.heap m) (X : (KK w.params).In h₀)
    (N : News h₀ L s.heap led) (T : Top p lo mean mg mb h₀) (hk : cs.kind = .function)
    (mx : (x, instObj 491 d) ∈ led) (md : (d, dictOf (tabE w t0 t1 t2 t3 t4 t5 t6 t7 t8 t9 u1 u2 u4 u5 u8 u9 num sz la l2 0 1) 10) ∈ led) (ml : (l2, listOf #[.ref n2] nn) ∈ led) (mn : (n2, instObj 260 d2) ∈ led) (mnd : (d2, dictOf (nodeE w k0 k1 k2 (.bytes #[95, 95, 108, 101, 110] tk2) val (.int (-1) k3)) 3) ∈ led)
    (hhand : handedIn val = true)
    (ret : ∀ (h' : Heap) (tk' : Nat), Fr h₀ L h' m → News h₀ L h' led → Q val { s with heap := h', toks := tk' }) :
    wpAny (model PySem.Challenge.rw_rh0165_01.row.prog w) (topA 500 4000 gd cn cs L a ccd cl outer) (call (.ref 335) [.ref x, .bytes #[95, 95, 108, 101, 110] tkk]) Q E s := by
  have hkey : #[95, 95, 108, 101, 110] = (#[95, 95, 108, 101, 110] : Array UInt8) ∨ #[95, 95, 108, 101, 110] = (#[95, 95, 105, 110, 100, 101, 120] : Array UInt8) := .inl rfl
  revert X; k_fill; intro X
  refine wpAny_call ?_
  have hs : ∀ q ∈ [(x, instObj 491 d), (d, dictOf (tabE w t0 t1 t2 t3 t4 t5 t6 t7 t8 t9 u1 u2 u4 u5 u8 u9 num sz la l2 0 1) 10), (l2, listOf #[.ref n2] nn), (n2, instObj 260 d2), (d2, dictOf (nodeE w k0 k1 k2 (.bytes #[95, 95, 108, 101, 110] tk2) val (.int (-1) k3)) 3)], q ∈ led := by repeat (first | exact List.forall_mem_nil _ | with_reducible assumption | refine List.forall_mem_cons.mpr ⟨by assumption, ?_⟩)
  w_strict (k_dflt (refine' enter_ro [("text", .bytes #[95, 95, 108, 101, 110] tkk), ("self", .ref x)] _ B F X N hs T ?kA ?kF ?kK ?k6 ?k7 ?k8 ?k9 ?kB ?c2 ?c3 ?c4 ?c5 ?_; (case kA => exact rfl); (case kF => exact rfl); (case kK => first | exact rfl | assumption); (case k6 => k_is); (case k7 => k_is); (case k8 => exact Nat.le_of_ble_eq_true rfl); (case k9 => exact BindsTo.of_eq (by kernel_rfl!)); (case kB => kernel_rfl!); (case c2 => exact rfl); (case c3 => exact rfl); (case c4 => exact rfl); (case c5 => kernel_rfl!); k_whole; intro g L1 h1 tk1 HK FG F1 N1 B1 X1 T1; (try dsimp only); (try k_fold)))
  k_steps
  exact ret _ _ (by k_asm) (led_back HK N hs (by k_asm) (cb_drop (by k_asm) (by kcj_all)))
theorem c_get_miss {x d la l2 n2 d2 : Addr} {num val : Value} {tkk tk2 : Tok} {t0 t1 t2 t3 t4 t5 t6 t7 t8 t9 u1 u2 u4 u5 u8 u9 k0 k1 k2 k3 : Tok} {nn : Nat} {sz : Int}
    (B : Below A₀ base outer h₀) (F : Fr h₀ L s.heap m) (X : (KK w.params).In h₀)
    (N : News h₀ L s.heap led) (T : Top p lo mean mg mb h₀) (hk : cs.kind = .function)
    (mx : (x, instObj 491 d) ∈ led) (md : (d, dictOf (tabE w t0 t1 t2 t3 t4 t5 t6 t7 t8 t9 u1 u2 u4 u5 u8 u9 num sz la l2 0 1) 10) ∈ led) (ml : (l2, listOf #[.ref n2] nn) ∈ led) (mn : (n2, instObj 260 d2) ∈ led) (mnd : (d2, dictOf (nodeE w k0 k1 k2 (.bytes #[95, 95, 105, 110, 100, 101, 120] tk2) val (.int (-1) k3)) 3) ∈ led)
    (ret : ∀ (h' : Heap) (tk' : Nat), Fr h₀ L h' m → News h₀ L h' led → Q .none { s with heap := h', toks := tk' }) :
    wpAny (model PySem.Challenge.rw_rh0165_01.row.prog w) (topA 500 4000 gd cn cs L a ccd cl outer) (call (.ref 335) [.ref x, .bytes #[95, 95, 108, 101, 110] tkk]) Q E s := by
  have hkey : #[95, 95, 108, 101, 110] = (#[95, 95, 108, 101, 110] : Array UInt8) ∨ #[95, 95, 108, 101, 110] = (#[95, 95, 105, 110, 100, 101, 120] : Array UInt8) := .inl rfl
  revert X; k_fill; intro X
  refine wpAny_call ?_
  have hs : ∀ q ∈ [(x, instObj 491 d), (d, dictOf (tabE w t0 t1 t2 t3 t4 t5 t6 t7 t8 t9 u1 u2 u4 u5 u8 u9 num sz la l2 0 1) 10), (l2, listOf #[.ref n2] nn), (n2, instObj 260 d2), (d2, dictOf (nodeE w k0 k1 k2 (.bytes #[95, 95, 105, 110, 100, 101, 120] tk2) val (.int (-1) k3)) 3)], q ∈ led := by repeat (first | exact List.forall_mem_nil _ | with_reducible assumption | refine List.forall_mem_cons.mpr ⟨by assumption, ?_⟩)
  w_strict (k_dflt (refine' enter_ro [("text", .bytes #[95, 95, 108, 101, 110] tkk), ("self", .ref x)] _ B F X N hs T ?kA ?kF ?kK ?k6 ?k7 ?k8 ?k9 ?kB ?c2 ?c3 ?c4 ?c5 ?_; (case kA => exact rfl); (case kF => exact rfl); (case kK => first | exact rfl | assumption); (case k6 => k_is); (case k7 => k_is); (case k8 => exact Nat.le_of_ble_eq_true rfl); (case k9 => exact BindsTo.of_eq (by kernel_rfl!)); (case kB => kernel_rfl!); (case c2 => exact rfl); (case c3 => exact rfl); (case c4 => exact rfl); (case c5 => kernel_rfl!); k_whole; intro g L1 h1 tk1 HK FG F1 N1 B1 X1 T1; (try dsimp only); (try k_fold)))
  k_steps
  exact ret _ _ (by k_asm) (led_back HK N hs (by k_asm) (cb_drop (by k_asm) (by kcj_all)))
end
section
local macro_rules | `(tactic| walk_at "none") => `(tactic| skip)
local macro_rules | `(tactic| walk_at "call ref") => `(tactic| (k_here; (with_reducible show wpAny _ _ (call (Value.ref 168) _) _ _ _); k_dflt (refine' use_ctr (c_clog ?k1 ?k2 ?k3 ?k4 ?k5 ?kK ?hw ?_) ?e ?d ?u; (case e => exact rfl); (case d => exact Nat.le_of_ble_eq_true rfl); (case u => exact Nat.le_of_ble_eq_true rfl); (case k1 => k_asm); (case k2 => k_asm); (case k3 => k_asm); (case k4 => k_asm); (case k5 => k_asm); (case kK => first | exact rfl | assumption); (case hw => first | rfl | decide | omega); k_whole; intro t' h' tk' F' N'; (try k_sweep); (try dsimp only))))
theorem c_nodes {z x d la ln : Addr} {num : Value} {t0 t1 t2 t3 t4 t5 t6 t7 t8 t9 u1 u2 u4 u5 u8 u9 : Tok} {sz lg fr hz' : Int} {oz : Obj} {tkk : Tok}
    (B : Below A₀ base outer h₀) (F : Fr h₀ L s.heap m) (X : (KK w.params).In h₀)
    (N : News h₀ L s.heap led) (T : Top p lo mean mg mb h₀) (hk : cs.kind = .function) (mz : (z, oz) ∈ led) (hz : ∀ p ∈ led, p.1 ≤ z)
    (hh : hz' = 1) (hdx : @LT.lt Nat _ d x) (hdz : @LT.lt Nat _ d z) (mx : (x, instObj 491 d) ∈ led) (md : (d, dictOf (tabE w t0 t1 t2 t3 t4 t5 t6 t7 t8 t9 u1 u2 u4 u5 u8 u9 num sz la ln lg fr) 10) ∈ led)
    (ret : ∀ (l2 n2 d2 : Addr) (v8 v9 k0 k1 k2 k3 : Tok) (nn : Nat) (h' : Heap) (tk' : Nat), (∀ p ∈ led, p.1 < d2) → @LT.lt Nat _ d2 n2 → (∀ p ∈ led, p.1 ≠ l2) → @Ne Nat l2 d2 → @Ne Nat l2 n2 → @Ne Nat l2 d → Fr h₀ L h' m →
      (∀ led', Upd d (dictOf (tabE w t0 t1 t2 t3 t4 t5 t6 t7 t8 t9 u1 u2 u4 u5 u8 u9 num sz la ln lg fr) 10) (dictOf (tabE w t0 t1 t2 t3 t4 t5 t6 t7 t8 t9 u1 u2 u4 u5 v8 v9 num sz la l2 0 1) 10) led led' → News h₀ L h' ([(l2, listOf #[.ref n2] nn), (n2, instObj 260 d2), (d2, dictOf (nodeE w k0 k1 k2 .none .none (.int (-1) k3)) 3)] ++ led')) → Q .none { s with heap := h', toks := tk' }) :
    wpAny (model PySem.Challenge.rw_rh0165_01.row.prog w) (topA 550 5000 gd cn cs L a ccd cl outer) (call (.ref 425) [.ref x, .int hz' tkk]) Q E s := by
  revert X; k_fill; intro X
  subst hh
  refine wpAny_call ?_
  have hs : ∀ q ∈ [(d, dictOf (tabE w t0 t1 t2 t3 t4 t5 t6 t7 t8 t9 u1 u2 u4 u5 u8 u9 num sz la ln lg fr) 10), (z, oz), (x, instObj 491 d)], q ∈ led := by repeat (first | exact List.forall_mem_nil _ | with_reducible assumption | refine List.forall_mem_cons.mpr ⟨by assumption, ?_⟩)
  w_strict (k_dflt (refine' enter_ro [("hash_size", .int 1 tkk), ("self", .ref x)] _ B F X N hs T ?kA ?kF ?kK ?k6 ?k7 ?k8 ?k9 ?kB ?c2 ?c3 ?c4 ?c5 ?_; (case kA => exact rfl); (case kF => exact rfl); (case kK => first | exact rfl | assumption); (case k6 => k_is); (case k7 => k_is); (case k8 => exact Nat.le_of_ble_eq_true rfl); (case k9 => exact BindsTo.of_eq (by kernel_rfl!)); (case kB => kernel_rfl!); (case c2 => exact rfl); (case c3 => exact rfl); (case c4 => exact rfl); (case c5 => kernel_rfl!); k_whole; intro g L1 h1 tk1 HK FG F1 N1 B1 X1 T1; (try dsimp only); (try k_fold)))
  k_steps
  rename_i kN _ _
  refine' ret _ _ _ _ _ _ _ _ _ _ _ _ ?lt ?o1 ?ne ?o2 ?o3 ?o4 ?F ?NN
  case F => k_asm
  case NN =>
    intro led' U
    refine news_app ?x ?y
    case x => (refine cb_drop kN ?_; lcg_sub)
    case y => exact led_upd HK N hs (by k_asm) (by refine cb_drop (by k_asm) ?_; lcg_sub) led' U
  case lt => exact lt_top hz (by omega)
  case ne => exact led_apart' HK (News.fresh (h₀ := g) (by k_asm) (List.Mem.head _)) (by simp only [AllNe, and_true]; omega)
  all_goals omega
end
def GMok (w : World) (gl : Addr) (v mv : Value) (led : List (Addr × Obj)) : Prop :=
  ∀ (p : Program) (lo : List Str) (mean : ExcName → Option Value) (mg mb : Str → Option Value) (gdd : Option (List Code)) (cn : Str) (cs : Scope) (a L : Addr) (ccd : Value) (cl : List (Str × Addr)) (outer : List Env) (A₀ : Around) (base h₀ : Heap) (m : Str → Option Value) (s : Shared) (Q E : Value → Shared → Prop),
    Below A₀ base outer h₀ → Fr h₀ L s.heap m → (KK w.params).In h₀ → News h₀ L s.heap led → Top p lo mean mg mb h₀ → cs.kind = .function →
    (∀ (h' : Heap) (tk' : Nat), Fr h₀ L h' m → News h₀ L h' led → Q mv { s with heap := h', toks := tk' }) →
    wpAny (model PySem.Challenge.rw_rh0165_01.row.prog w) (topA 490 3700 gdd cn cs L a ccd cl outer) (call (.ref 500) [.ref gl, v]) Q E s
section
local macro_rules | `(tactic| walk_at "getMethod ref") => `(tactic| (k_here; (with_reducible show wpAny _ _ (getMethod (Value.ref _) (Str.ofString "pop") _) _ _ _); k_dflt (refine metas_pop_method (by k_asm) (by k_mem) (by with_reducible assumption) ?_)))
local macro_rules | `(tactic| walk_at "getMethod ref") => `(tactic| (k_here; (with_reducible show wpAny _ _ (getMethod (Value.ref _) (Str.ofString "get") _) _ _ _); k_dflt (refine metas_get_method (by k_asm) (by k_mem) (by with_reducible assumption) ?_)))
local macro_rules | `(tactic| walk_at "call builtin:dict.get") => `(tactic| (k_here; k_dflt (refine metas_get' (by k_asm) (by k_mem) (by with_reducible assumption) (by with_reducible assumption) (by with_reducible assumption) ?_)))
local macro_rules | `(tactic| walk_at "setItem ref int") => `(tactic| (k_here; k_dflt (refine' metas_set ?F ?N ?U ?M ?n ?_; (case F => k_asm); (case N => k_asm); (case U => k_updF); (case M => with_reducible assumption); (case n => omega); intro h' o' F' N' M'; (try dsimp only at N'))))
local macro_rules | `(tactic| walk_at "call builtin:dict.pop") => `(tactic| (k_here; k_dflt (refine' metas_pop ?F ?N ?U ?M ?n ?l ?_; (case F => k_asm); (case N => k_asm); (case U => k_updF); (case M => with_reducible assumption); (case n => omega); (case l => with_reducible assumption); intro v' h' o' F' N' M'; (try dsimp only at N'))))
theorem c_gm_none {w : World} {led : List (Addr × Obj)} {gl gd lim M out : Addr} {g0 g1 g2 g3 g4 g5 g6 g7 g8 g9 w8 w9 : Tok} {o : Obj} {n : Nat} {f : Int → Value} {mv : Value}
    (mg1 : (gl, instObj 211 gd) ∈ led) (mg2 : (gd, dictOf (globE w g0 g1 g2 g3 g4 g5 g6 g7 g8 g9 w8 w9 lim M out) 10) ∈ led) (mm : (M, o) ∈ led) (hmv : f 0 = mv) (MI : MetasIs w n o f) (hlo : (M == sysModules) = false) : GMok w gl (.none) mv led := by
  intro p lo mean mg mb gdd cn cs a L ccd cl outer A₀ base h₀ m s Q E B F X N T hk ret
  revert X; k_fill; intro X
  refine wpAny_call ?_
  have hs : ∀ q ∈ [(M, o), (gl, instObj 211 gd), (gd, dictOf (globE w g0 g1 g2 g3 g4 g5 g6 g7 g8 g9 w8 w9 lim M out) 10)], q ∈ led := by repeat (first | exact List.forall_mem_nil _ | with_reducible assumption | refine List.forall_mem_cons.mpr ⟨by assumption, ?_⟩)
  w_strict (k_dflt (refine' enter_ro [("value", .none), ("glob", .ref gl)] _ B F X N hs T ?kA ?kF ?kK ?k6 ?k7 ?k8 ?k9 ?kB ?c2 ?c3 ?c4 ?c5 ?_; (case kA => exact rfl); (case kF => exact rfl); (case kK => first | exact rfl | assumption); (case k6 => k_is); (case k7 => k_is); (case k8 => exact Nat.le_of_ble_eq_true rfl); (case k9 => exact BindsTo.of_eq (by kernel_rfl!)); (case kB => kernel_rfl!); (case c2 => exact rfl); (case c3 => exact rfl); (case c4 => exact rfl); (case c5 => kernel_rfl!); k_whole; intro g L1 h1 tk1 HK FG F1 N1 B1 X1 T1; (try dsimp only); (try k_fold)))
  k_steps
  exact ret _ _ (by k_asm) (led_back HK N hs (by k_asm) (cb_drop (by k_asm) (by kcj_all)))
theorem c_gm_bool {w : World} {led : List (Addr × Obj)} {gl gd lim M out : Addr} {g0 g1 g2 g3 g4 g5 g6 g7 g8 g9 w8 w9 : Tok} {o : Obj} {n : Nat} {f : Int → Value} {mv : Value}
    (mg1 : (gl, instObj 211 gd) ∈ led) (mg2 : (gd, dictOf (globE w g0 g1 g2 g3 g4 g5 g6 g7 g8 g9 w8 w9 lim M out) 10) ∈ led) (mm : (M, o) ∈ led) (hmv : f 1 = mv) (MI : MetasIs w n o f) (hlo : (M == sysModules) = false) : GMok w gl (.bool true) mv led := by
  intro p lo mean mg mb gdd cn cs a L ccd cl outer A₀ base h₀ m s Q E B F X N T hk ret
  revert X; k_fill; intro X
  refine wpAny_call ?_
  have hs : ∀ q ∈ [(M, o), (gl, instObj 211 gd), (gd, dictOf (globE w g0 g1 g2 g3 g4 g5 g6 g7 g8 g9 w8 w9 lim M out) 10)], q ∈ led := by repeat (first | exact List.forall_mem_nil _ | with_reducible assumption | refine List.forall_mem_cons.mpr ⟨by assumption, ?_⟩)
  w_strict (k_dflt (refine' enter_ro [("value", .bool true), ("glob", .ref gl)] _ B F X N hs T ?kA ?kF ?kK ?k6 ?k7 ?k8 ?k9 ?kB ?c2 ?c3 ?c4 ?c5 ?_; (case kA => exact rfl); (case kF => exact rfl); (case kK => first | exact rfl | assumption); (case k6 => k_is); (case k7 => k_is); (case k8 => exact Nat.le_of_ble_eq_true rfl); (case k9 => exact BindsTo.of_eq (by kernel_rfl!)); (case kB => kernel_rfl!); (case c2 => exact rfl); (case c3 => exact rfl); (case c4 => exact rfl); (case c5 => kernel_rfl!); k_whole; intro g L1 h1 tk1 HK FG F1 N1 B1 X1 T1; (try dsimp only); (try k_fold)))
  k_steps
  exact ret _ _ (by k_asm) (led_back HK N hs (by k_asm) (cb_drop (by k_asm) (by kcj_all)))
theorem c_gm_int {w : World} {led : List (Addr × Obj)} {gl gd lim M out : Addr} {g0 g1 g2 g3 g4 g5 g6 g7 g8 g9 w8 w9 tv : Tok} {o : Obj} {n : Nat} {f : Int → Value} {mv : Value}
    (mg1 : (gl, instObj 211 gd) ∈ led) (mg2 : (gd, dictOf (globE w g0 g1 g2 g3 g4 g5 g6 g7 g8 g9 w8 w9 lim M out) 10) ∈ led) (mm : (M, o) ∈ led) (hmv : f 3 = mv) (MI : MetasIs w n o f) (hlo : (M == sysModules) = false) : GMok w gl (.int 5 tv) mv led := by
  intro p lo mean mg mb gdd cn cs a L ccd cl outer A₀ base h₀ m s Q E B F X N T hk ret
  revert X; k_fill; intro X
  refine wpAny_call ?_
  have hs : ∀ q ∈ [(M, o), (gl, instObj 211 gd), (gd, dictOf (globE w g0 g1 g2 g3 g4 g5 g6 g7 g8 g9 w8 w9 lim M out) 10)], q ∈ led := by repeat (first | exact List.forall_mem_nil _ | with_reducible assumption | refine List.forall_mem_cons.mpr ⟨by assumption, ?_⟩)
  w_strict (k_dflt (refine' enter_ro [("value", .int 5 tv), ("glob", .ref gl)] _ B F X N hs T ?kA ?kF ?kK ?k6 ?k7 ?k8 ?k9 ?kB ?c2 ?c3 ?c4 ?c5 ?_; (case kA => exact rfl); (case kF => exact rfl); (case kK => first | exact rfl | assumption); (case k6 => k_is); (case k7 => k_is); (case k8 => exact Nat.le_of_ble_eq_true rfl); (case k9 => exact BindsTo.of_eq (by kernel_rfl!)); (case kB => kernel_rfl!); (case c2 => exact rfl); (case c3 => exact rfl); (case c4 => exact rfl); (case c5 => kernel_rfl!); k_whole; intro g L1 h1 tk1 HK FG F1 N1 B1 X1 T1; (try dsimp only); (try k_fold)))
  k_steps
  exact ret _ _ (by k_asm) (led_back HK N hs (by k_asm) (cb_drop (by k_asm) (by kcj_all)))
theorem c_gm_light {w : World} {led : List (Addr × Obj)} {gl gd lim M out lv lvd : Addr} {g0 g1 g2 g3 g4 g5 g6 g7 g8 g9 w8 w9 x0 x1 : Tok} {o : Obj} {n : Nat} {f : Int → Value} {mv : Value}
    (mg1 : (gl, instObj 211 gd) ∈ led) (mg2 : (gd, dictOf (globE w g0 g1 g2 g3 g4 g5 g6 g7 g8 g9 w8 w9 lim M out) 10) ∈ led) (mm : (M, o) ∈ led) (mlv : (lv, instObj 115 lvd) ∈ led) (mlv2 : (lvd, dictOf [en w "number" x0 (.int 3 x1)] 1) ∈ led) (hmv : f 2 = mv) (MI : MetasIs w n o f) (hlo : (M == sysModules) = false) : GMok w gl (.ref lv) mv led := by
  intro p lo mean mg mb gdd cn cs a L ccd cl outer A₀ base h₀ m s Q E B F X N T hk ret
  revert X; k_fill; intro X
  refine wpAny_call ?_
  have hs : ∀ q ∈ [(M, o), (gl, instObj 211 gd), (gd, dictOf (globE w g0 g1 g2 g3 g4 g5 g6 g7 g8 g9 w8 w9 lim M out) 10), (lv, instObj 115 lvd), (lvd, dictOf [en w "number" x0 (.int 3 x1)] 1)], q ∈ led := by repeat (first | exact List.forall_mem_nil _ | with_reducible assumption | refine List.forall_mem_cons.mpr ⟨by assumption, ?_⟩)
  w_strict (k_dflt (refine' enter_ro [("value", .ref lv), ("glob", .ref gl)] _ B F X N hs T ?kA ?kF ?kK ?k6 ?k7 ?k8 ?k9 ?kB ?c2 ?c3 ?c4 ?c5 ?_; (case kA => exact rfl); (case kF => exact rfl); (case kK => first | exact rfl | assumption); (case k6 => k_is); (case k7 => k_is); (case k8 => exact Nat.le_of_ble_eq_true rfl); (case k9 => exact BindsTo.of_eq (by kernel_rfl!)); (case kB => kernel_rfl!); (case c2 => exact rfl); (case c3 => exact rfl); (case c4 => exact rfl); (case c5 => kernel_rfl!); k_whole; intro g L1 h1 tk1 HK FG F1 N1 B1 X1 T1; (try dsimp only); (try k_fold)))
  k_steps
  exact ret _ _ (by k_asm) (led_back HK N hs (by k_asm) (cb_drop (by k_asm) (by kcj_all)))
theorem c_gm_user {w : World} {led : List (Addr × Obj)} {gl uv ud : Addr} {y0 y1 y2 y3 y4 y5 y6 z0 z1 z2 z3 : Tok} {ub : Array UInt8} {mv : Value}
    (mu : (uv, instObj 185 ud) ∈ led) (mud : (ud, dictOf (userE w y0 y1 y2 y3 y4 y5 y6 z0 z1 z2 z3 ub mv) 7) ∈ led) (hm : mv = .none ∨ ∃ x, mv = .ref x) : GMok w gl (.ref uv) mv led := by
  intro p lo mean mg mb gdd cn cs a L ccd cl outer A₀ base h₀ m s Q E B F X N T hk ret
  revert X; k_fill; intro X
  rcases hm with rfl | ⟨x, rfl⟩
  · refine wpAny_call ?_
    have hs : ∀ q ∈ [(uv, instObj 185 ud), (ud, dictOf (userE w y0 y1 y2 y3 y4 y5 y6 z0 z1 z2 z3 ub .none) 7)], q ∈ led := by repeat (first | exact List.forall_mem_nil _ | with_reducible assumption | refine List.forall_mem_cons.mpr ⟨by assumption, ?_⟩)
    w_strict (k_dflt (refine' enter_ro [("value", .ref uv), ("glob", .ref gl)] _ B F X N hs T ?kA ?kF ?kK ?k6 ?k7 ?k8 ?k9 ?kB ?c2 ?c3 ?c4 ?c5 ?_; (case kA => exact rfl); (case kF => exact rfl); (case kK => first | exact rfl | assumption); (case k6 => k_is); (case k7 => k_is); (case k8 => exact Nat.le_of_ble_eq_true rfl); (case k9 => exact BindsTo.of_eq (by kernel_rfl!)); (case kB => kernel_rfl!); (case c2 => exact rfl); (case c3 => exact rfl); (case c4 => exact rfl); (case c5 => kernel_rfl!); k_whole; intro g L1 h1 tk1 HK FG F1 N1 B1 X1 T1; (try dsimp only); (try k_fold)))
    k_steps
    exact ret _ _ (by k_asm) (led_back HK N hs (by k_asm) (cb_drop (by k_asm) (by kcj_all)))
  · refine wpAny_call ?_
    have hs : ∀ q ∈ [(uv, instObj 185 ud), (ud, dictOf (userE w y0 y1 y2 y3 y4 y5 y6 z0 z1 z2 z3 ub (.ref x)) 7)], q ∈ led := by repeat (first | exact List.forall_mem_nil _ | with_reducible assumption | refine List.forall_mem_cons.mpr ⟨by assumption, ?_⟩)
    w_strict (k_dflt (refine' enter_ro [("value", .ref uv), ("glob", .ref gl)] _ B F X N hs T ?kA ?kF ?kK ?k6 ?k7 ?k8 ?k9 ?kB ?c2 ?c3 ?c4 ?c5 ?_; (case kA => exact rfl); (case kF => exact rfl); (case kK => first | exact rfl | assumption); (case k6 => k_is); (case k7 => k_is); (case k8 => exact Nat.le_of_ble_eq_true rfl); (case k9 => exact BindsTo.of_eq (by kernel_rfl!)); (case kB => kernel_rfl!); (case c2 => exact rfl); (case c3 => exact rfl); (case c4 => exact rfl); (case c5 => kernel_rfl!); k_whole; intro g L1 h1 tk1 HK FG F1 N1 B1 X1 T1; (try dsimp only); (try k_fold)))
    k_steps
    exact ret _ _ (by k_asm) (led_back HK N hs (by k_asm) (cb_drop (by k_asm) (by kcj_all)))
end
theorem GMok.use {gl : Addr} {v mv : Value} (H : GMok w gl v mv led)
    (B : Below A₀ base outer h₀) (F : Fr h₀ L s.heap m) (X : (KK w.params).In h₀)
    (N : News h₀ L s.heap led) (T : Top p lo mean mg mb h₀) (hk : cs.kind = .function)
    (ret : ∀ (h' : Heap) (tk' : Nat), Fr h₀ L h' m → News h₀ L h' led → Q mv { s with heap := h', toks := tk' }) :
    wpAny (model PySem.Challenge.rw_rh0165_01.row.prog w) (topA 490 3700 gdd cn cs L a ccd cl outer) (call (.ref 500) [.ref gl, v]) Q E s := H _ _ _ _ _ _ _ _ _ _ _ _ _ _ _ _ _ _ _ _ B F X N T hk ret
section
local macro_rules | `(tactic| walk_at "call ref") => `(tactic| (k_here; (with_reducible show wpAny _ _ (call (Value.ref 500) _) _ _ _); k_dflt (refine' use_ctr (GMok.use ?H ?k1 ?k2 ?k3 ?k4 ?k5 ?kK ?_) ?e ?d ?u; (case e => exact rfl); (case d => exact Nat.le_of_ble_eq_true rfl); (case u => exact Nat.le_of_ble_eq_true rfl); (case k1 => k_asm); (case k2 => k_asm); (case k3 => k_asm); (case k4 => k_asm); (case k5 => k_asm); (case kK => first | exact rfl | assumption); (case H => with_reducible assumption); k_whole; intro h' tk' F' N'; (try k_sweep); (try dsimp only))))
local macro_rules | `(tactic| k_mem) => `(tactic| ((repeat (first | with_reducible assumption | with_reducible exact List.mem_cons_self | with_reducible refine List.mem_cons_of_mem _ ?_)); done))
local macro_rules | `(tactic| walk_at "call ref") => `(tactic| (k_here; (with_reducible show wpAny _ _ (call (Value.ref 335) _) _ _ _); k_dflt (first | (refine' use_ctr (c_get_hit ?k1 ?k2 ?k3 ?k4 ?k5 ?kK ?m1 ?m2 ?m3 ?m4 ?m5 ?hh ?_) ?e ?d ?u; (case e => exact rfl); (case d => exact Nat.le_of_ble_eq_true rfl); (case u => exact Nat.le_of_ble_eq_true rfl); (case k1 => k_asm); (case k2 => k_asm); (case k3 => k_asm); (case k4 => k_asm); (case k5 => k_asm); (case kK => first | exact rfl | assumption); (case m1 => k_mem); (case m2 => k_mem); (case m3 => k_mem); (case m4 => k_mem); (case m5 => k_mem); (case hh => with_reducible assumption); k_whole; intro h' tk' F' N'; (try k_sweep); (try dsimp only)))))
local macro_rules | `(tactic| walk_at "call ref") => `(tactic| (k_here; (with_reducible show wpAny _ _ (call (Value.ref 335) _) _ _ _); k_dflt (first | (refine' use_ctr (c_get_miss ?k1 ?k2 ?k3 ?k4 ?k5 ?kK ?m1 ?m2 ?m3 ?m4 ?m5 ?_) ?e ?d ?u; (case e => exact rfl); (case d => exact Nat.le_of_ble_eq_true rfl); (case u => exact Nat.le_of_ble_eq_true rfl); (case k1 => k_asm); (case k2 => k_asm); (case k3 => k_asm); (case k4 => k_asm); (case k5 => k_asm); (case kK => first | exact rfl | assumption); (case m1 => k_mem); (case m2 => k_mem); (case m3 => k_mem); (case m4 => k_mem); (case m5 => k_mem); k_whole; intro h' tk' F' N'; (try k_sweep); (try dsimp only)))))
theorem c_tm {gl : Addr} {v : Value} {tkk : Tok} {mv ans : Value} {tabs : List (Addr × Obj)}
    (B : Below A₀ base outer h₀) (F : Fr h₀ L s.heap m) (X : (KK w.params).In h₀)
    (N : News h₀ L s.heap led) (T : Top p lo mean mg mb h₀) (hk : cs.kind = .function)
    (hg : GMok w gl v mv led) (ht : ∀ p ∈ tabs, p ∈ led) (hmi : MetaIn w tabs mv ans)
    (ret : ∀ (h' : Heap) (tk' : Nat), Fr h₀ L h' m → News h₀ L h' led → Q ans { s with heap := h', toks := tk' }) :
    wpAny (model PySem.Challenge.rw_rh0165_01.row.prog w) (topA 480 3500 gdd cn cs L a ccd cl outer) (call (.ref 514) [.ref gl, v, .bytes #[95, 95, 108, 101, 110] tkk]) Q E s := by
  revert X; k_fill; intro X
  cases hmi with
  | none =>
    refine wpAny_call ?_
    have hs : ∀ q ∈ led, q ∈ led := fun _ h => h
    w_strict (k_dflt (refine' enter_ro [("event", .bytes #[95, 95, 108, 101, 110] tkk), ("value", v), ("glob", .ref gl)] _ B F X N hs T ?kA ?kF ?kK ?k6 ?k7 ?k8 ?k9 ?kB ?c2 ?c3 ?c4 ?c5 ?_; (case kA => exact rfl); (case kF => exact rfl); (case kK => first | exact rfl | assumption); (case k6 => k_is); (case k7 => k_is); (case k8 => exact Nat.le_of_ble_eq_true rfl); (case k9 => exact BindsTo.of_eq (by kernel_rfl!)); (case kB => kernel_rfl!); (case c2 => exact rfl); (case c3 => exact rfl); (case c4 => exact rfl); (case c5 => kernel_rfl!); k_whole; intro g L1 h1 tk1 HK FG F1 N1 B1 X1 T1; (try dsimp only); (try k_fold)))
    k_steps
    exact ret _ _ (by k_asm) (led_back HK N hs (by k_asm) (by k_asm))
  | hit m1 m2 m3 m4 m5 hv =>
    have hhand := hv.handed
    replace m1 := ht _ m1; replace m2 := ht _ m2; replace m3 := ht _ m3; replace m4 := ht _ m4; replace m5 := ht _ m5
    refine wpAny_call ?_
    have hs : ∀ q ∈ led, q ∈ led := fun _ h => h
    w_strict (k_dflt (refine' enter_ro [("event", .bytes #[95, 95, 108, 101, 110] tkk), ("value", v), ("glob", .ref gl)] _ B F X N hs T ?kA ?kF ?kK ?k6 ?k7 ?k8 ?k9 ?kB ?c2 ?c3 ?c4 ?c5 ?_; (case kA => exact rfl); (case kF => exact rfl); (case kK => first | exact rfl | assumption); (case k6 => k_is); (case k7 => k_is); (case k8 => exact Nat.le_of_ble_eq_true rfl); (case k9 => exact BindsTo.of_eq (by kernel_rfl!)); (case kB => kernel_rfl!); (case c2 => exact rfl); (case c3 => exact rfl); (case c4 => exact rfl); (case c5 => kernel_rfl!); k_whole; intro g L1 h1 tk1 HK FG F1 N1 B1 X1 T1; (try dsimp only); (try k_fold)))
    k_steps
    exact ret _ _ (by k_asm) (led_back HK N hs (by k_asm) (by k_asm))
  | miss m1 m2 m3 m4 m5 =>
    replace m1 := ht _ m1; replace m2 := ht _ m2; replace m3 := ht _ m3; replace m4 := ht _ m4; replace m5 := ht _ m5
    refine wpAny_call ?_
    have hs : ∀ q ∈ led, q ∈ led := fun _ h => h
    w_strict (k_dflt (refine' enter_ro [("event", .bytes #[95, 95, 108, 101, 110] tkk), ("value", v), ("glob", .ref gl)] _ B F X N hs T ?kA ?kF ?kK ?k6 ?k7 ?k8 ?k9 ?kB ?c2 ?c3 ?c4 ?c5 ?_; (case kA => exact rfl); (case kF => exact rfl); (case kK => first | exact rfl | assumption); (case k6 => k_is); (case k7 => k_is); (case k8 => exact Nat.le_of_ble_eq_true rfl); (case k9 => exact BindsTo.of_eq (by kernel_rfl!)); (case kB => kernel_rfl!); (case c2 => exact rfl); (case c3 => exact rfl); (case c4 => exact rfl); (case c5 => kernel_rfl!); k_whole; intro g L1 h1 tk1 HK FG F1 N1 B1 X1 T1; (try dsimp only); (try k_fold)))
    k_steps
    exact ret _ _ (by k_asm) (led_back HK N hs (by k_asm) (by k_asm))
end
section
theorem c_limits
    (B : Below A₀ base outer h₀) (F : Fr h₀ L s.heap m) (X : (KK w.params).In h₀)
    (N : News h₀ L s.heap led) (T : Top p lo mean mg mb h₀) (hk : cs.kind = .function)
    (ret : ∀ (x : Addr) (h' : Heap) (tk' : Nat), (∀ p ∈ led, p.1 < x) → Fr h₀ L h' m → News h₀ L h' led → Q (.ref x) { s with heap := h', toks := tk' }) :
    wpAny (model PySem.Challenge.rw_rh0165_01.row.prog w) (topA 500 4000 gd cn cs L a ccd cl outer) (call (.ref 53) []) Q E s := by
  revert X; k_fill; intro X
  w_strict (k_dflt (refine' call_cls ?k1 ?k2 ?k3 ?k4 ?k5 ?k6 ?_; (case k1 => k_asm); (case k2 => k_asm); (case k3 => k_asm); (case k4 => k_is); (case k5 => k_is); (case k6 => k_is); k_whole))
  intro x d h2 F2 N2 l1 l2
  have l2' : @LT.lt Nat _ d x := l2
  have hs : ∀ q ∈ [(d, dictOf [] 0), (x, instObj 53 d)], q ∈ (x, instObj 53 d) :: (d, dictOf [] 0) :: led := by repeat (first | exact List.forall_mem_nil _ | refine List.forall_mem_cons.mpr ⟨by k_mem, ?_⟩)
  w_strict (k_dflt (refine' enter_ro [("text", .int 1000000 236), ("steps", .int 1000000000 235), ("flush", .int 50 234), ("stack", .int 2000 233), ("frames", .int 200 232), ("ccalls", .int 40 231), ("local_names", .int 200 230), ("upvalues", .int 60 229), ("registers", .int 250 228), ("width", .int 64 227), ("self", .ref x)] _ B F2 X N2 hs T ?kA ?kF ?kK ?k6 ?k7 ?k8 ?k9 ?kB ?c2 ?c3 ?c4 ?c5 ?_; (case kA => exact rfl); (case kF => exact rfl); (case kK => first | exact rfl | assumption); (case k6 => k_is); (case k7 => k_is); (case k8 => exact Nat.le_of_ble_eq_true rfl); (case k9 => first | exact binds_K (by k_in) rfl (by k_is) rfl rfl (by kernel_rfl!) | exact BindsTo.of_eq (by kernel_rfl!)); (case kB => kernel_rfl!); (case c2 => exact rfl); (case c3 => exact rfl); (case c4 => exact rfl); (case c5 => kernel_rfl!); k_whole; intro g L1 h1 tk1 HK FG F1 N1 B1 X1 T1; (try dsimp only); (try k_fold)))
  k_steps
  rename_i kN _ _
  have U : ∀ o', Upd d (dictOf [] 0) o' ((x, instObj 53 d) :: (d, dictOf [] 0) :: led) ((x, instObj 53 d) :: (d, o') :: led) := fun o' => Upd.tail (Nat.ne_of_gt l2) (Upd.head (fun p hp => Nat.ne_of_lt (l1 p hp)))
  have NN := led_upd HK N2 hs (by k_asm) (by refine cb_drop (by k_asm) ?_; lcg_sub) _ (U _)
  exact ret x _ _ (fun p hp => Nat.lt_trans (l1 p hp) l2') (by k_asm) (fun q hq => NN q (List.mem_cons_of_mem _ (List.mem_cons_of_mem _ hq)))
end
section
theorem c_light {i3 : Int} {t3 : Tok}
    (B : Below A₀ base outer h₀) (F : Fr h₀ L s.heap m) (X : (KK w.params).In h₀)
    (N : News h₀ L s.heap led) (T : Top p lo mean mg mb h₀) (hk : cs.kind = .function)
    (ret : ∀ (x d : Addr) (x0 : Tok) (h' : Heap) (tk' : Nat), (∀ p ∈ led, p.1 < d) → @LT.lt Nat _ d x → Fr h₀ L h' m → News h₀ L h' ((x, instObj 115 d) :: (d, dictOf [en w "number" x0 (.int i3 t3)] 1) :: led) → Q (.ref x) { s with heap := h', toks := tk' }) :
    wpAny (model PySem.Challenge.rw_rh0165_01.row.prog w) (topA 500 4000 gd cn cs L a ccd cl outer) (call (.ref 115) [.int i3 t3]) Q E s := by
  revert X; k_fill; intro X
  w_strict (k_dflt (refine' call_cls ?k1 ?k2 ?k3 ?k4 ?k5 ?k6 ?_; (case k1 => k_asm); (case k2 => k_asm); (case k3 => k_asm); (case k4 => k_is); (case k5 => k_is); (case k6 => k_is); k_whole))
  intro x d h2 F2 N2 l1 l2
  have l2' : @LT.lt Nat _ d x := l2
  have hs : ∀ q ∈ [(d, dictOf [] 0), (x, instObj 115 d)], q ∈ (x, instObj 115 d) :: (d, dictOf [] 0) :: led := by repeat (first | exact List.forall_mem_nil _ | refine List.forall_mem_cons.mpr ⟨by k_mem, ?_⟩)
  w_strict (k_dflt (refine' enter_ro [("number", .int i3 t3), ("self", .ref x)] _ B F2 X N2 hs T ?kA ?kF ?kK ?k6 ?k7 ?k8 ?k9 ?kB ?c2 ?c3 ?c4 ?c5 ?_; (case kA => exact rfl); (case kF => exact rfl); (case kK => first | exact rfl | assumption); (case k6 => k_is); (case k7 => k_is); (case k8 => exact Nat.le_of_ble_eq_true rfl); (case k9 => first | exact binds_K (by k_in) rfl (by k_is) rfl rfl (by kernel_rfl!) | exact BindsTo.of_eq (by kernel_rfl!)); (case kB => kernel_rfl!); (case c2 => exact rfl); (case c3 => exact rfl); (case c4 => exact rfl); (case c5 => kernel_rfl!); k_whole; intro g L1 h1 tk1 HK FG F1 N1 B1 X1 T1; (try dsimp only); (try k_fold)))
  k_steps
  rename_i kN _ _
  have U : ∀ o', Upd d (dictOf [] 0) o' ((x, instObj 115 d) :: (d, dictOf [] 0) :: led) ((x, instObj 115 d) :: (d, o') :: led) := fun o' => Upd.tail (Nat.ne_of_gt l2) (Upd.head (fun p hp => Nat.ne_of_lt (l1 p hp)))
  exact ret x d _ _ _ l1 l2' (by k_asm) (led_upd HK N2 hs (by k_asm) (by refine cb_drop (by k_asm) ?_; lcg_sub) _ (U _))
end
section
theorem c_userd {ub : Array UInt8} {z3 : Tok}
    (B : Below A₀ base outer h₀) (F : Fr h₀ L s.heap m) (X : (KK w.params).In h₀)
    (N : News h₀ L s.heap led) (T : Top p lo mean mg mb h₀) (hk : cs.kind = .function)
    (ret : ∀ (x d : Addr) (y0 y1 y2 y3 y4 y5 y6 z0 z1 z2 : Tok) (h' : Heap) (tk' : Nat), (∀ p ∈ led, p.1 < d) → @LT.lt Nat _ d x → Fr h₀ L h' m → News h₀ L h' ((x, instObj 185 d) :: (d, dictOf (userE w y0 y1 y2 y3 y4 y5 y6 z0 z1 z2 z3 ub .none) 7) :: led) → Q (.ref x) { s with heap := h', toks := tk' }) :
    wpAny (model PySem.Challenge.rw_rh0165_01.row.prog w) (topA 500 4000 gd cn cs L a ccd cl outer) (call (.ref 185) [.bytes ub z3, .none, .none]) Q E s := by
  revert X; k_fill; intro X
  w_strict (k_dflt (refine' call_cls ?k1 ?k2 ?k3 ?k4 ?k5 ?k6 ?_; (case k1 => k_asm); (case k2 => k_asm); (case k3 => k_asm); (case k4 => k_is); (case k5 => k_is); (case k6 => k_is); k_whole))
  intro x d h2 F2 N2 l1 l2
  have l2' : @LT.lt Nat _ d x := l2
  have hs : ∀ q ∈ [(d, dictOf [] 0), (x, instObj 185 d)], q ∈ (x, instObj 185 d) :: (d, dictOf [] 0) :: led := by repeat (first | exact List.forall_mem_nil _ | refine List.forall_mem_cons.mpr ⟨by k_mem, ?_⟩)
  w_strict (k_dflt (refine' enter_ro [("env", .none), ("meta", .none), ("value", .bytes ub z3), ("self", .ref x)] _ B F2 X N2 hs T ?kA ?kF ?kK ?k6 ?k7 ?k8 ?k9 ?kB ?c2 ?c3 ?c4 ?c5 ?_; (case kA => exact rfl); (case kF => exact rfl); (case kK => first | exact rfl | assumption); (case k6 => k_is); (case k7 => k_is); (case k8 => exact Nat.le_of_ble_eq_true rfl); (case k9 => first | exact binds_K (by k_in) rfl (by k_is) rfl rfl (by kernel_rfl!) | exact BindsTo.of_eq (by kernel_rfl!)); (case kB => kernel_rfl!); (case c2 => exact rfl); (case c3 => exact rfl); (case c4 => exact rfl); (case c5 => kernel_rfl!); k_whole; intro g L1 h1 tk1 HK FG F1 N1 B1 X1 T1; (try dsimp only); (try k_fold)))
  k_steps
  rename_i kN _ _
  have U : ∀ o', Upd d (dictOf [] 0) o' ((x, instObj 185 d) :: (d, dictOf [] 0) :: led) ((x, instObj 185 d) :: (d, o') :: led) := fun o' => Upd.tail (Nat.ne_of_gt l2) (Upd.head (fun p hp => Nat.ne_of_lt (l1 p hp)))
  exact ret x d _ _ _ _ _ _ _ _ _ _ _ _ l1 l2' (by k_asm) (led_upd HK N2 hs (by k_asm) (by refine cb_drop (by k_asm) ?_; lcg_sub) _ (U _))
end
section
theorem c_global {lim : Addr}
    (B : Below A₀ base outer h₀) (F : Fr h₀ L s.heap m) (X : (KK w.params).In h₀)
    (N : News h₀ L s.heap led) (T : Top p lo mean mg mb h₀) (hk : cs.kind = .function)
    (ret : ∀ (x d M out : Addr) (o : Obj) (g0 g1 g2 g3 g4 g5 g6 g7 g8 g9 w8 w9 : Tok) (n : Nat) (h' : Heap) (tk' : Nat), (∀ p ∈ led, p.1 < d) → @LT.lt Nat _ d x → @LT.lt Nat _ x M → @LT.lt Nat _ M out → (M == sysModules) = false → o.IsDictOf (PySem.intKind PySem.Challenge.rw_rh0165_01.row.prog w) [] → Fr h₀ L h' m →
      News h₀ L h' ([(out, listOf #[] n), (M, o)] ++ ((x, instObj 211 d) :: (d, dictOf (globE w g0 g1 g2 g3 g4 g5 g6 g7 g8 g9 w8 w9 lim M out) 10) :: led)) → Q (.ref x) { s with heap := h', toks := tk' }) :
    wpAny (model PySem.Challenge.rw_rh0165_01.row.prog w) (topA 500 4000 gd cn cs L a ccd cl outer) (call (.ref 211) [.ref lim]) Q E s := by
  revert X; k_fill; intro X
  w_strict (k_dflt (refine' call_cls ?k1 ?k2 ?k3 ?k4 ?k5 ?k6 ?_; (case k1 => k_asm); (case k2 => k_asm); (case k3 => k_asm); (case k4 => k_is); (case k5 => k_is); (case k6 => k_is); k_whole))
  intro x d h2 F2 N2 l1 l2
  have l2' : @LT.lt Nat _ d x := l2
  have hs : ∀ q ∈ [(d, dictOf [] 0), (x, instObj 211 d)], q ∈ (x, instObj 211 d) :: (d, dictOf [] 0) :: led := by repeat (first | exact List.forall_mem_nil _ | refine List.forall_mem_cons.mpr ⟨by k_mem, ?_⟩)
  w_strict (k_dflt (refine' enter_ro [("limits", .ref lim), ("self", .ref x)] _ B F2 X N2 hs T ?kA ?kF ?kK ?k6 ?k7 ?k8 ?k9 ?kB ?c2 ?c3 ?c4 ?c5 ?_; (case kA => exact rfl); (case kF => exact rfl); (case kK => first | exact rfl | assumption); (case k6 => k_is); (case k7 => k_is); (case k8 => exact Nat.le_of_ble_eq_true rfl); (case k9 => first | exact binds_K (by k_in) rfl (by k_is) rfl rfl (by kernel_rfl!) | exact BindsTo.of_eq (by kernel_rfl!)); (case kB => kernel_rfl!); (case c2 => exact rfl); (case c3 => exact rfl); (case c4 => exact rfl); (case c5 => kernel_rfl!); k_whole; intro g L1 h1 tk1 HK FG F1 N1 B1 X1 T1; (try dsimp only); (try k_fold)))
  k_steps
  rename_i kN _ _
  have U : ∀ o', Upd d (dictOf [] 0) o' ((x, instObj 211 d) :: (d, dictOf [] 0) :: led) ((x, instObj 211 d) :: (d, o') :: led) := fun o' => Upd.tail (Nat.ne_of_gt l2) (Upd.head (fun p hp => Nat.ne_of_lt (l1 p hp)))
  refine' ret x d _ _ _ _ _ _ _ _ _ _ _ _ _ _ _ _ _ _ l1 l2' ?o2 ?o3 ?lo ?hi ?F ?NN
  case F => k_asm
  case NN =>
    refine news_app (a := [(_, _), (_, _)]) ?x ?y
    case y => exact led_upd HK N2 hs (by k_asm) (by refine cb_drop (by k_asm) ?_; lcg_sub) _ (U _)
    case x => (refine cb_drop kN ?_; lcg_sub)
  case lo => assumption
  case hi => assumption
  all_goals omega
end
section
local macro_rules | `(tactic| walk_at "getMethod ref") => `(tactic| (k_here; (with_reducible show wpAny _ _ (getMethod (Value.ref _) (Str.ofString "pop") _) _ _ _); k_dflt (refine metas_pop_method (by k_asm) (by k_mem) (by with_reducible assumption) ?_)))
local macro_rules | `(tactic| walk_at "getMethod ref") => `(tactic| (k_here; (with_reducible show wpAny _ _ (getMethod (Value.ref _) (Str.ofString "get") _) _ _ _); k_dflt (refine metas_get_method (by k_asm) (by k_mem) (by with_reducible assumption) ?_)))
local macro_rules | `(tactic| walk_at "call builtin:dict.get") => `(tactic| (k_here; k_dflt (refine metas_get' (by k_asm) (by k_mem) (by with_reducible assumption) (by with_reducible assumption) (by with_reducible assumption) ?_)))
local macro_rules | `(tactic| walk_at "setItem ref int") => `(tactic| (k_here; k_dflt (refine' metas_set ?F ?N ?U ?M ?n ?_; (case F => k_asm); (case N => k_asm); (case U => k_updF); (case M => with_reducible assumption); (case n => omega); intro h' o' F' N' M'; (try dsimp only at N'))))
local macro_rules | `(tactic| walk_at "call builtin:dict.pop") => `(tactic| (k_here; k_dflt (refine' metas_pop ?F ?N ?U ?M ?n ?l ?_; (case F => k_asm); (case N => k_asm); (case U => k_updF); (case M => with_reducible assumption); (case n => omega); (case l => with_reducible assumption); intro v' h' o' F' N' M'; (try dsimp only at N'))))
theorem c_set_none {gl gd lim M out : Addr} {g0 g1 g2 g3 g4 g5 g6 g7 g8 g9 w8 w9 : Tok} {o : Obj} {n : Nat} {f : Int → Value} {mt : Value}
    (B : Below A₀ base outer h₀) (F : Fr h₀ L s.heap m) (X : (KK w.params).In h₀)
    (N : News h₀ L s.heap led) (T : Top p lo mean mg mb h₀) (hk : cs.kind = .function)
    (mg1 : (gl, instObj 211 gd) ∈ led) (mg2 : (gd, dictOf (globE w g0 g1 g2 g3 g4 g5 g6 g7 g8 g9 w8 w9 lim M out) 10) ∈ led) (mm : (M, o) ∈ led)
    (hm : mt = .none ∨ ∃ x, mt = .ref x) (MI : MetasIs w n o f) (hn : n ≤ 50) (hlo : (M == sysModules) = false) (hd1 : @Ne Nat gl M) (hd2 : @Ne Nat gd M)
    (ret : ∀ (o' : Obj) (h' : Heap) (tk' : Nat), MetasIs w (n + 1) o' (fun k' => if k' = 0 then mt else f k') → Fr h₀ L h' m → (∀ led', Upd M o o' led led' → News h₀ L h' led') → Q .none { s with heap := h', toks := tk' }) :
    wpAny (model PySem.Challenge.rw_rh0165_01.row.prog w) (topA 450 3000 gdd cn cs L a ccd cl outer) (call (.ref 507) [.ref gl, .none, mt]) Q E s := by
  revert X; k_fill; intro X
  rcases hm with rfl | ⟨x, rfl⟩
  · refine wpAny_call ?_
    have hs : ∀ q ∈ [(M, o), (gl, instObj 211 gd), (gd, dictOf (globE w g0 g1 g2 g3 g4 g5 g6 g7 g8 g9 w8 w9 lim M out) 10)], q ∈ led := by repeat (first | exact List.forall_mem_nil _ | with_reducible assumption | refine List.forall_mem_cons.mpr ⟨by assumption, ?_⟩)
    w_strict (k_dflt (refine' enter_ro [("meta", .none), ("value", .none), ("glob", .ref gl)] _ B F X N hs T ?kA ?kF ?kK ?k6 ?k7 ?k8 ?k9 ?kB ?c2 ?c3 ?c4 ?c5 ?_; (case kA => exact rfl); (case kF => exact rfl); (case kK => first | exact rfl | assumption); (case k6 => k_is); (case k7 => k_is); (case k8 => exact Nat.le_of_ble_eq_true rfl); (case k9 => exact BindsTo.of_eq (by kernel_rfl!)); (case kB => kernel_rfl!); (case c2 => exact rfl); (case c3 => exact rfl); (case c4 => exact rfl); (case c5 => kernel_rfl!); k_whole; intro g L1 h1 tk1 HK FG F1 N1 B1 X1 T1; (try dsimp only); (try k_fold)))
    k_steps
    exact ret _ _ _ (MetasIs.more (by with_reducible assumption)) (by k_asm) (fun led' U => led_upd HK N hs (by k_asm) (by k_asm) led' U)
  · refine wpAny_call ?_
    have hs : ∀ q ∈ [(M, o), (gl, instObj 211 gd), (gd, dictOf (globE w g0 g1 g2 g3 g4 g5 g6 g7 g8 g9 w8 w9 lim M out) 10)], q ∈ led := by repeat (first | exact List.forall_mem_nil _ | with_reducible assumption | refine List.forall_mem_cons.mpr ⟨by assumption, ?_⟩)
    w_strict (k_dflt (refine' enter_ro [("meta", .ref x), ("value", .none), ("glob", .ref gl)] _ B F X N hs T ?kA ?kF ?kK ?k6 ?k7 ?k8 ?k9 ?kB ?c2 ?c3 ?c4 ?c5 ?_; (case kA => exact rfl); (case kF => exact rfl); (case kK => first | exact rfl | assumption); (case k6 => k_is); (case k7 => k_is); (case k8 => exact Nat.le_of_ble_eq_true rfl); (case k9 => exact BindsTo.of_eq (by kernel_rfl!)); (case kB => kernel_rfl!); (case c2 => exact rfl); (case c3 => exact rfl); (case c4 => exact rfl); (case c5 => kernel_rfl!); k_whole; intro g L1 h1 tk1 HK FG F1 N1 B1 X1 T1; (try dsimp only); (try k_fold)))
    k_steps
    exact ret _ _ _ (by with_reducible assumption) (by k_asm) (fun led' U => led_upd HK N hs (by k_asm) (by k_asm) led' U)
theorem c_set_bool {gl gd lim M out : Addr} {g0 g1 g2 g3 g4 g5 g6 g7 g8 g9 w8 w9 : Tok} {o : Obj} {n : Nat} {f : Int → Value} {mt : Value}
    (B : Below A₀ base outer h₀) (F : Fr h₀ L s.heap m) (X : (KK w.params).In h₀)
    (N : News h₀ L s.heap led) (T : Top p lo mean mg mb h₀) (hk : cs.kind = .function)
    (mg1 : (gl, instObj 211 gd) ∈ led) (mg2 : (gd, dictOf (globE w g0 g1 g2 g3 g4 g5 g6 g7 g8 g9 w8 w9 lim M out) 10) ∈ led) (mm : (M, o) ∈ led)
    (hm : mt = .none ∨ ∃ x, mt = .ref x) (MI : MetasIs w n o f) (hn : n ≤ 50) (hlo : (M == sysModules) = false) (hd1 : @Ne Nat gl M) (hd2 : @Ne Nat gd M)
    (ret : ∀ (o' : Obj) (h' : Heap) (tk' : Nat), MetasIs w (n + 1) o' (fun k' => if k' = 1 then mt else f k') → Fr h₀ L h' m → (∀ led', Upd M o o' led led' → News h₀ L h' led') → Q .none { s with heap := h', toks := tk' }) :
    wpAny (model PySem.Challenge.rw_rh0165_01.row.prog w) (topA 450 3000 gdd cn cs L a ccd cl outer) (call (.ref 507) [.ref gl, .bool true, mt]) Q E s := by
  revert X; k_fill; intro X
  rcases hm with rfl | ⟨x, rfl⟩
  · refine wpAny_call ?_
    have hs : ∀ q ∈ [(M, o), (gl, instObj 211 gd), (gd, dictOf (globE w g0 g1 g2 g3 g4 g5 g6 g7 g8 g9 w8 w9 lim M out) 10)], q ∈ led := by repeat (first | exact List.forall_mem_nil _ | with_reducible assumption | refine List.forall_mem_cons.mpr ⟨by assumption, ?_⟩)
    w_strict (k_dflt (refine' enter_ro [("meta", .none), ("value", .bool true), ("glob", .ref gl)] _ B F X N hs T ?kA ?kF ?kK ?k6 ?k7 ?k8 ?k9 ?kB ?c2 ?c3 ?c4 ?c5 ?_; (case kA => exact rfl); (case kF => exact rfl); (case kK => first | exact rfl | assumption); (case k6 => k_is); (case k7 => k_is); (case k8 => exact Nat.le_of_ble_eq_true rfl); (case k9 => exact BindsTo.of_eq (by kernel_rfl!)); (case kB => kernel_rfl!); (case c2 => exact rfl); (case c3 => exact rfl); (case c4 => exact rfl); (case c5 => kernel_rfl!); k_whole; intro g L1 h1 tk1 HK FG F1 N1 B1 X1 T1; (try dsimp only); (try k_fold)))
    k_steps
    exact ret _ _ _ (MetasIs.more (by with_reducible assumption)) (by k_asm) (fun led' U => led_upd HK N hs (by k_asm) (by k_asm) led' U)
  · refine wpAny_call ?_
    have hs : ∀ q ∈ [(M, o), (gl, instObj 211 gd), (gd, dictOf (globE w g0 g1 g2 g3 g4 g5 g6 g7 g8 g9 w8 w9 lim M out) 10)], q ∈ led := by repeat (first | exact List.forall_mem_nil _ | with_reducible assumption | refine List.forall_mem_cons.mpr ⟨by assumption, ?_⟩)
    w_strict (k_dflt (refine' enter_ro [("meta", .ref x), ("value", .bool true), ("glob", .ref gl)] _ B F X N hs T ?kA ?kF ?kK ?k6 ?k7 ?k8 ?k9 ?kB ?c2 ?c3 ?c4 ?c5 ?_; (case kA => exact rfl); (case kF => exact rfl); (case kK => first | exact rfl | assumption); (case k6 => k_is); (case k7 => k_is); (case k8 => exact Nat.le_of_ble_eq_true rfl); (case k9 => exact BindsTo.of_eq (by kernel_rfl!)); (case kB => kernel_rfl!); (case c2 => exact rfl); (case c3 => exact rfl); (case c4 => exact rfl); (case c5 => kernel_rfl!); k_whole; intro g L1 h1 tk1 HK FG F1 N1 B1 X1 T1; (try dsimp only); (try k_fold)))
    k_steps
    exact ret _ _ _ (by with_reducible assumption) (by k_asm) (fun led' U => led_upd HK N hs (by k_asm) (by k_asm) led' U)
theorem c_set_int {gl gd lim M out : Addr} {g0 g1 g2 g3 g4 g5 g6 g7 g8 g9 w8 w9 : Tok} {o : Obj} {n : Nat} {f : Int → Value} {mt : Value} {tv : Tok}
    (B : Below A₀ base outer h₀) (F : Fr h₀ L s.heap m) (X : (KK w.params).In h₀)
    (N : News h₀ L s.heap led) (T : Top p lo mean mg mb h₀) (hk : cs.kind = .function)
    (mg1 : (gl, instObj 211 gd) ∈ led) (mg2 : (gd, dictOf (globE w g0 g1 g2 g3 g4 g5 g6 g7 g8 g9 w8 w9 lim M out) 10) ∈ led) (mm : (M, o) ∈ led)
    (hm : mt = .none ∨ ∃ x, mt = .ref x) (MI : MetasIs w n o f) (hn : n ≤ 50) (hlo : (M == sysModules) = false) (hd1 : @Ne Nat gl M) (hd2 : @Ne Nat gd M)
    (ret : ∀ (o' : Obj) (h' : Heap) (tk' : Nat), MetasIs w (n + 1) o' (fun k' => if k' = 3 then mt else f k') → Fr h₀ L h' m → (∀ led', Upd M o o' led led' → News h₀ L h' led') → Q .none { s with heap := h', toks := tk' }) :
    wpAny (model PySem.Challenge.rw_rh0165_01.row.prog w) (topA 450 3000 gdd cn cs L a ccd cl outer) (call (.ref 507) [.ref gl, .int 5 tv, mt]) Q E s := by
  revert X; k_fill; intro X
  rcases hm with rfl | ⟨x, rfl⟩
  · refine wpAny_call ?_
    have hs : ∀ q ∈ [(M, o), (gl, instObj 211 gd), (gd, dictOf (globE w g0 g1 g2 g3 g4 g5 g6 g7 g8 g9 w8 w9 lim M out) 10)], q ∈ led := by repeat (first | exact List.forall_mem_nil _ | with_reducible assumption | refine List.forall_mem_cons.mpr ⟨by assumption, ?_⟩)
    w_strict (k_dflt (refine' enter_ro [("meta", .none), ("value", .int 5 tv), ("glob", .ref gl)] _ B F X N hs T ?kA ?kF ?kK ?k6 ?k7 ?k8 ?k9 ?kB ?c2 ?c3 ?c4 ?c5 ?_; (case kA => exact rfl); (case kF => exact rfl); (case kK => first | exact rfl | assumption); (case k6 => k_is); (case k7 => k_is); (case k8 => exact Nat.le_of_ble_eq_true rfl); (case k9 => exact BindsTo.of_eq (by kernel_rfl!)); (case kB => kernel_rfl!); (case c2 => exact rfl); (case c3 => exact rfl); (case c4 => exact rfl); (case c5 => kernel_rfl!); k_whole; intro g L1 h1 tk1 HK FG F1 N1 B1 X1 T1; (try dsimp only); (try k_fold)))
    k_steps
    exact ret _ _ _ (MetasIs.more (by with_reducible assumption)) (by k_asm) (fun led' U => led_upd HK N hs (by k_asm) (by k_asm) led' U)
  · refine wpAny_call ?_
    have hs : ∀ q ∈ [(M, o), (gl, instObj 211 gd), (gd, dictOf (globE w g0 g1 g2 g3 g4 g5 g6 g7 g8 g9 w8 w9 lim M out) 10)], q ∈ led := by repeat (first | exact List.forall_mem_nil _ | with_reducible assumption | refine List.forall_mem_cons.mpr ⟨by assumption, ?_⟩)
    w_strict (k_dflt (refine' enter_ro [("meta", .ref x), ("value", .int 5 tv), ("glob", .ref gl)] _ B F X N hs T ?kA ?kF ?kK ?k6 ?k7 ?k8 ?k9 ?kB ?c2 ?c3 ?c4 ?c5 ?_; (case kA => exact rfl); (case kF => exact rfl); (case kK => first | exact rfl | assumption); (case k6 => k_is); (case k7 => k_is); (case k8 => exact Nat.le_of_ble_eq_true rfl); (case k9 => exact BindsTo.of_eq (by kernel_rfl!)); (case kB => kernel_rfl!); (case c2 => exact rfl); (case c3 => exact rfl); (case c4 => exact rfl); (case c5 => kernel_rfl!); k_whole; intro g L1 h1 tk1 HK FG F1 N1 B1 X1 T1; (try dsimp only); (try k_fold)))
    k_steps
    exact ret _ _ _ (by with_reducible assumption) (by k_asm) (fun led' U => led_upd HK N hs (by k_asm) (by k_asm) led' U)
end
section
local macro_rules | `(tactic| walk_at "getMethod ref") => `(tactic| (k_here; (with_reducible show wpAny _ _ (getMethod (Value.ref _) (Str.ofString "pop") _) _ _ _); k_dflt (refine metas_pop_method (by k_asm) (by k_mem) (by with_reducible assumption) ?_)))
local macro_rules | `(tactic| walk_at "getMethod ref") => `(tactic| (k_here; (with_reducible show wpAny _ _ (getMethod (Value.ref _) (Str.ofString "get") _) _ _ _); k_dflt (refine metas_get_method (by k_asm) (by k_mem) (by with_reducible assumption) ?_)))
local macro_rules | `(tactic| walk_at "call builtin:dict.get") => `(tactic| (k_here; k_dflt (refine metas_get' (by k_asm) (by k_mem) (by with_reducible assumption) (by with_reducible assumption) (by with_reducible assumption) ?_)))
local macro_rules | `(tactic| walk_at "setItem ref int") => `(tactic| (k_here; k_dflt (refine' metas_set ?F ?N ?U ?M ?n ?_; (case F => k_asm); (case N => k_asm); (case U => k_updF); (case M => with_reducible assumption); (case n => omega); intro h' o' F' N' M'; (try dsimp only at N'))))
local macro_rules | `(tactic| walk_at "call builtin:dict.pop") => `(tactic| (k_here; k_dflt (refine' metas_pop ?F ?N ?U ?M ?n ?l ?_; (case F => k_asm); (case N => k_asm); (case U => k_updF); (case M => with_reducible assumption); (case n => omega); (case l => with_reducible assumption); intro v' h' o' F' N' M'; (try dsimp only at N'))))
theorem c_set_light {gl gd lim M out lv lvd : Addr} {x0 x1 : Tok} {g0 g1 g2 g3 g4 g5 g6 g7 g8 g9 w8 w9 : Tok} {o : Obj} {n : Nat} {f : Int → Value} {mt : Value}
    (B : Below A₀ base outer h₀) (F : Fr h₀ L s.heap m) (X : (KK w.params).In h₀)
    (N : News h₀ L s.heap led) (T : Top p lo mean mg mb h₀) (hk : cs.kind = .function)
    (mg1 : (gl, instObj 211 gd) ∈ led) (mg2 : (gd, dictOf (globE w g0 g1 g2 g3 g4 g5 g6 g7 g8 g9 w8 w9 lim M out) 10) ∈ led) (mm : (M, o) ∈ led) (mlv : (lv, instObj 115 lvd) ∈ led) (mlv2 : (lvd, dictOf [en w "number" x0 (.int 3 x1)] 1) ∈ led) (hd3 : @Ne Nat lv M) (hd4 : @Ne Nat lvd M)
    (hm : mt = .none ∨ ∃ x, mt = .ref x) (MI : MetasIs w n o f) (hn : n ≤ 50) (hlo : (M == sysModules) = false) (hd1 : @Ne Nat gl M) (hd2 : @Ne Nat gd M)
    (ret : ∀ (o' : Obj) (h' : Heap) (tk' : Nat), MetasIs w (n + 1) o' (fun k' => if k' = 2 then mt else f k') → Fr h₀ L h' m → (∀ led', Upd M o o' led led' → News h₀ L h' led') → Q .none { s with heap := h', toks := tk' }) :
    wpAny (model PySem.Challenge.rw_rh0165_01.row.prog w) (topA 450 3000 gdd cn cs L a ccd cl outer) (call (.ref 507) [.ref gl, .ref lv, mt]) Q E s := by
  revert X; k_fill; intro X
  rcases hm with rfl | ⟨x, rfl⟩
  · refine wpAny_call ?_
    have hs : ∀ q ∈ [(M, o), (gl, instObj 211 gd), (gd, dictOf (globE w g0 g1 g2 g3 g4 g5 g6 g7 g8 g9 w8 w9 lim M out) 10), (lv, instObj 115 lvd), (lvd, dictOf [en w "number" x0 (.int 3 x1)] 1)], q ∈ led := by repeat (first | exact List.forall_mem_nil _ | with_reducible assumption | refine List.forall_mem_cons.mpr ⟨by assumption, ?_⟩)
    w_strict (k_dflt (refine' enter_ro [("meta", .none), ("value", .ref lv), ("glob", .ref gl)] _ B F X N hs T ?kA ?kF ?kK ?k6 ?k7 ?k8 ?k9 ?kB ?c2 ?c3 ?c4 ?c5 ?_; (case kA => exact rfl); (case kF => exact rfl); (case kK => first | exact rfl | assumption); (case k6 => k_is); (case k7 => k_is); (case k8 => exact Nat.le_of_ble_eq_true rfl); (case k9 => exact BindsTo.of_eq (by kernel_rfl!)); (case kB => kernel_rfl!); (case c2 => exact rfl); (case c3 => exact rfl); (case c4 => exact rfl); (case c5 => kernel_rfl!); k_whole; intro g L1 h1 tk1 HK FG F1 N1 B1 X1 T1; (try dsimp only); (try k_fold)))
    k_steps
    exact ret _ _ _ (MetasIs.more (by with_reducible assumption)) (by k_asm) (fun led' U => led_upd HK N hs (by k_asm) (by k_asm) led' U)
  · refine wpAny_call ?_
    have hs : ∀ q ∈ [(M, o), (gl, instObj 211 gd), (gd, dictOf (globE w g0 g1 g2 g3 g4 g5 g6 g7 g8 g9 w8 w9 lim M out) 10), (lv, instObj 115 lvd), (lvd, dictOf [en w "number" x0 (.int 3 x1)] 1)], q ∈ led := by repeat (first | exact List.forall_mem_nil _ | with_reducible assumption | refine List.forall_mem_cons.mpr ⟨by assumption, ?_⟩)
    w_strict (k_dflt (refine' enter_ro [("meta", .ref x), ("value", .ref lv), ("glob", .ref gl)] _ B F X N hs T ?kA ?kF ?kK ?k6 ?k7 ?k8 ?k9 ?kB ?c2 ?c3 ?c4 ?c5 ?_; (case kA => exact rfl); (case kF => exact rfl); (case kK => first | exact rfl | assumption); (case k6 => k_is); (case k7 => k_is); (case k8 => exact Nat.le_of_ble_eq_true rfl); (case k9 => exact BindsTo.of_eq (by kernel_rfl!)); (case kB => kernel_rfl!); (case c2 => exact rfl); (case c3 => exact rfl); (case c4 => exact rfl); (case c5 => kernel_rfl!); k_whole; intro g L1 h1 tk1 HK FG F1 N1 B1 X1 T1; (try dsimp only); (try k_fold)))
    k_steps
    exact ret _ _ _ (by with_reducible assumption) (by k_asm) (fun led' U => led_upd HK N hs (by k_asm) (by k_asm) led' U)
end
section
theorem c_table {num : Value}
    (B : Below A₀ base outer h₀) (F : Fr h₀ L s.heap m) (X : (KK w.params).In h₀)
    (N : News h₀ L s.heap led) (T : Top p lo mean mg mb h₀) (hk : cs.kind = .function)
    (ret : ∀ (x d la ln : Addr) (t0 t1 t2 t3 t4 t5 t6 t7 t8 t9 u1 u2 u4 u5 u8 u9 : Tok) (n1 n2 : Nat) (h' : Heap) (tk' : Nat), (∀ p ∈ led, p.1 < d) → @LT.lt Nat _ d x → @LT.lt Nat _ x la → @LT.lt Nat _ la ln → Fr h₀ L h' m →
      News h₀ L h' ([(ln, listOf #[] n1), (la, listOf #[] n2), (x, instObj 491 d), (d, dictOf (tabE w t0 t1 t2 t3 t4 t5 t6 t7 t8 t9 u1 u2 u4 u5 u8 u9 num 56 la ln 0 0) 10)] ++ led) → Q (.ref x) { s with heap := h', toks := tk' }) :
    wpAny (model PySem.Challenge.rw_rh0165_01.row.prog w) (topA 500 4000 gd cn cs L a ccd cl outer) (call (.ref 491) [num]) Q E s := by
  revert X; k_fill; intro X
  w_strict (k_dflt (refine' call_cls ?k1 ?k2 ?k3 ?k4 ?k5 ?k6 ?_; (case k1 => k_asm); (case k2 => k_asm); (case k3 => k_asm); (case k4 => k_is); (case k5 => k_is); (case k6 => k_is); k_whole))
  intro x d h2 F2 N2 l1 l2
  have l2' : @LT.lt Nat _ d x := l2
  have hs : ∀ q ∈ [(d, dictOf [] 0), (x, instObj 491 d)], q ∈ (x, instObj 491 d) :: (d, dictOf [] 0) :: led := by repeat (first | exact List.forall_mem_nil _ | refine List.forall_mem_cons.mpr ⟨by k_mem, ?_⟩)
  w_strict (k_dflt (refine' enter_ro [("hash_size", .int 0 652), ("array_size", .int 0 651), ("number", num), ("self", .ref x)] _ B F2 X N2 hs T ?kA ?kF ?kK ?k6 ?k7 ?k8 ?k9 ?kB ?c2 ?c3 ?c4 ?c5 ?_; (case kA => exact rfl); (case kF => exact rfl); (case kK => first | exact rfl | assumption); (case k6 => k_is); (case k7 => k_is); (case k8 => exact Nat.le_of_ble_eq_true rfl); (case k9 => exact binds_K (by k_in) rfl (by k_is) rfl rfl (by kernel_rfl!)); (case kB => kernel_rfl!); (case c2 => exact rfl); (case c3 => exact rfl); (case c4 => exact rfl); (case c5 => kernel_rfl!); k_whole; intro g L1 h1 tk1 HK FG F1 N1 B1 X1 T1; (try dsimp only); (try k_fold)))
  k_steps
  rename_i kN _ _
  have U : ∀ o', Upd d (dictOf [] 0) o' ((x, instObj 491 d) :: (d, dictOf [] 0) :: led) ((x, instObj 491 d) :: (d, o') :: led) := fun o' => Upd.tail (Nat.ne_of_gt l2) (Upd.head (fun p hp => Nat.ne_of_lt (l1 p hp)))
  refine' ret x d _ _ _ _ _ _ _ _ _ _ _ _ _ _ _ _ _ _ _ _ _ _ l1 l2' ?o2 ?o3 ?F ?NN
  case F => k_asm
  case NN =>
    refine news_app (a := [(_, _), (_, _)]) ?x ?y
    case y => exact led_upd HK N2 hs (by k_asm) (by refine cb_drop (by k_asm) ?_; lcg_sub) _ (U _)
    case x => (refine cb_drop kN ?_; lcg_sub)
  all_goals omega
end
section
local macro_rules | `(tactic| walk_at "call ref") => `(tactic| (k_here; (with_reducible show wpAny _ _ (call (Value.ref 154) _) _ _ _); k_dflt (refine' use_ctr (c_hash ?k1 ?k2 ?k3 ?k4 ?k5 ?kK ?hkey ?_) ?e ?d ?u; (case e => exact rfl); (case d => exact Nat.le_of_ble_eq_true rfl); (case u => exact Nat.le_of_ble_eq_true rfl); (case k1 => k_asm); (case k2 => k_asm); (case k3 => k_asm); (case k4 => k_asm); (case k5 => k_asm); (case kK => first | exact rfl | assumption); (case hkey => assumption); k_whole; intro r' t' h' tk' hr0' hr1' F' N'; (try k_sweep); (try dsimp only))))
local macro_rules | `(tactic| walk_at "call ref") => `(tactic| (k_here; (with_reducible show wpAny _ _ (call (Value.ref 391) _) _ _ _); k_dflt (refine' use_ctr (c_count_array ?k1 ?k2 ?k3 ?k4 ?k5 ?kK ?m1 ?m2 ?m3 ?_) ?e ?d ?u; (case e => exact rfl); (case d => exact Nat.le_of_ble_eq_true rfl); (case u => exact Nat.le_of_ble_eq_true rfl); (case k1 => k_asm); (case k2 => k_asm); (case k3 => k_asm); (case k4 => k_asm); (case k5 => k_asm); (case kK => first | exact rfl | assumption); (case m1 => k_mem); (case m2 => k_mem); (case m3 => k_mem); k_whole; intro t' h' tk' F' N'; (try k_sweep); (try dsimp only))))
local macro_rules | `(tactic| walk_at "call ref") => `(tactic| (k_here; (with_reducible show wpAny _ _ (call (Value.ref 398) _) _ _ _); k_dflt (refine' use_ctr (c_count_nodes ?k1 ?k2 ?k3 ?k4 ?k5 ?kK ?mz ?hz ?m1 ?m2 ?m3 ?_) ?e ?d ?u; (case e => exact rfl); (case d => exact Nat.le_of_ble_eq_true rfl); (case u => exact Nat.le_of_ble_eq_true rfl); (case k1 => k_asm); (case k2 => k_asm); (case k3 => k_asm); (case k4 => k_asm); (case k5 => k_asm); (case kK => first | exact rfl | assumption); (case mz => exact List.Mem.head _); (case hz => exact le_all (by simp only [AllLe, and_true]; omega)); (case m1 => k_mem); (case m2 => k_mem); (case m3 => k_mem); k_whole; intro q' t' u' h' tk' l1 F' N'; (try k_lt l1); (try k_sweep); (try dsimp only))))
local macro_rules | `(tactic| walk_at "call ref") => `(tactic| (k_here; (with_reducible show wpAny _ _ (call (Value.ref 278) _) _ _ _); k_dflt (refine' use_ctr (c_sizes ?k1 ?k2 ?k3 ?k4 ?k5 ?kK ?mz ?hz ?hw ?m1 ?_) ?e ?d ?u; (case e => exact rfl); (case d => exact Nat.le_of_ble_eq_true rfl); (case u => exact Nat.le_of_ble_eq_true rfl); (case k1 => k_asm); (case k2 => k_asm); (case k3 => k_asm); (case k4 => k_asm); (case k5 => k_asm); (case kK => first | exact rfl | assumption); (case mz => exact List.Mem.head _); (case hz => exact le_all (by simp only [AllLe, and_true]; omega)); (case hw => first | rfl | decide | omega); (case m1 => k_mem); k_whole; intro q' t' u' h' tk' l1 F' N'; (try k_lt l1); (try k_sweep); (try dsimp only))))
local macro_rules | `(tactic| walk_at "call ref") => `(tactic| (k_here; (with_reducible show wpAny _ _ (call (Value.ref 425) _) _ _ _); k_dflt (refine' use_ctr (c_nodes ?k1 ?k2 ?k3 ?k4 ?k5 ?kK ?mz ?hz ?hh ?hdx ?hdz ?m1 ?m2 ?_) ?e ?d ?u; (case e => exact rfl); (case d => exact Nat.le_of_ble_eq_true rfl); (case u => exact Nat.le_of_ble_eq_true rfl); (case k1 => k_asm); (case k2 => k_asm); (case k3 => k_asm); (case k4 => k_asm); (case k5 => k_asm); (case kK => first | exact rfl | assumption); (case mz => exact List.Mem.head _); (case hz => exact le_all (by simp only [AllLe, and_true]; omega)); (case hh => first | rfl | decide | omega); (case hdx => omega); (case hdz => omega); (case m1 => k_mem); (case m2 => k_mem); k_whole; intro l2' n2' d2' v8' v9' k0' k1' k2' k3' nn' h' tk' l1 o1' ne' o2' o3' o4' F' hN'; (have N' := hN' _ (by k_upd)); clear hN'; (try dsimp only [List.cons_append, List.nil_append] at N'); (try k_lt l1); (try k_sweep); (try dsimp only))))
theorem c_settext {key : Array UInt8} {x d la ln : Addr} {num val : Value} {tkk : Tok} {t0 t1 t2 t3 t4 t5 t6 t7 t8 t9 u1 u2 u4 u5 u8 u9 : Tok} {n1 n2 : Nat}
    (B : Below A₀ base outer h₀) (F : Fr h₀ L s.heap m) (X : (KK w.params).In h₀)
    (N : News h₀ L s.heap led) (T : Top p lo mean mg mb h₀) (hk : cs.kind = .function)
    (hkey : key = #[95, 95, 108, 101, 110] ∨ key = #[95, 95, 105, 110, 100, 101, 120]) (mx : (x, instObj 491 d) ∈ led) (md : (d, dictOf (tabE w t0 t1 t2 t3 t4 t5 t6 t7 t8 t9 u1 u2 u4 u5 u8 u9 num 56 la ln 0 0) 10) ∈ led) (ma : (la, listOf #[] n1) ∈ led) (mn : (ln, listOf #[] n2) ∈ led)
    (h1 : @LT.lt Nat _ d x) (h2 : @LT.lt Nat _ x la) (h3 : @LT.lt Nat _ la ln)
    (ret : ∀ (l2 n2 d2 la2 : Addr) (v1 v2 v4 v5 v8 v9 k0 k1 k2 k3 : Tok) (nn : Nat) (sz : Int) (h' : Heap) (tk' : Nat), (∀ p ∈ led, p.1 ≠ l2) → (∀ p ∈ led, p.1 ≠ n2) → (∀ p ∈ led, p.1 ≠ d2) → Fr h₀ L h' m →
      (∀ led', Upd d (dictOf (tabE w t0 t1 t2 t3 t4 t5 t6 t7 t8 t9 u1 u2 u4 u5 u8 u9 num 56 la ln 0 0) 10) (dictOf (tabE w t0 t1 t2 t3 t4 t5 t6 t7 t8 t9 v1 v2 v4 v5 v8 v9 num sz la2 l2 0 1) 10) led led' → News h₀ L h' ([(l2, listOf #[.ref n2] nn), (n2, instObj 260 d2), (d2, dictOf (nodeE w k0 k1 k2 (.bytes key tkk) val (.int (-1) k3)) 3)] ++ led')) → Q .none { s with heap := h', toks := tk' }) :
    wpAny (model PySem.Challenge.rw_rh0165_01.row.prog w) (topA 500 4000 gd cn cs L a ccd cl outer) (call (.ref 363) [.ref x, .bytes key tkk, val, .none]) Q E s := by
  revert X; k_fill; intro X
  refine wpAny_call ?_
  have hs : ∀ q ∈ [(d, dictOf (tabE w t0 t1 t2 t3 t4 t5 t6 t7 t8 t9 u1 u2 u4 u5 u8 u9 num 56 la ln 0 0) 10), (x, instObj 491 d), (la, listOf #[] n1), (ln, listOf #[] n2)], q ∈ led := by repeat (first | exact List.forall_mem_nil _ | with_reducible assumption | refine List.forall_mem_cons.mpr ⟨by assumption, ?_⟩)
  w_strict (k_dflt (refine' enter_ro [("heap", .none), ("value", val), ("text", .bytes key tkk), ("self", .ref x)] _ B F X N hs T ?kA ?kF ?kK ?k6 ?k7 ?k8 ?k9 ?kB ?c2 ?c3 ?c4 ?c5 ?_; (case kA => exact rfl); (case kF => exact rfl); (case kK => first | exact rfl | assumption); (case k6 => k_is); (case k7 => k_is); (case k8 => exact Nat.le_of_ble_eq_true rfl); (case k9 => exact BindsTo.of_eq (by kernel_rfl!)); (case kB => kernel_rfl!); (case c2 => exact rfl); (case c3 => exact rfl); (case c4 => exact rfl); (case c5 => kernel_rfl!); k_whole; intro g L1 h1 tk1 HK FG F1 N1 B1 X1 T1; (try dsimp only); (try k_fold)))
  k_steps
  rename_i kN _ _
  rename ∀ p ∈ (_ : List (Addr × Obj)), p.1 ≠ _ => neR
  refine' ret _ _ _ _ _ _ _ _ _ _ _ _ _ _ _ _ _ _ ?ne1 ?ne2 ?ne3 ?F ?NN
  case F => k_asm
  case NN =>
    intro led' U
    refine news_app ?x ?y
    case x => (refine cb_drop kN ?_; lcg_sub)
    case y => exact led_upd HK N hs (by k_asm) (by refine cb_drop (by k_asm) ?_; lcg_sub) led' U
  case ne1 => exact led_apart' HK (News.fresh (h₀ := g) (by k_asm) (by k_mem)) ⟨neF (q := d) neR (by k_mem), neF (q := x) neR (by k_mem), neF (q := la) neR (by k_mem), neF (q := ln) neR (by k_mem), trivial⟩
  case ne2 => exact led_apart' HK (News.fresh (h₀ := g) (by k_asm) (by k_mem)) (by simp only [AllNe, and_true]; omega)
  case ne3 => exact led_apart' HK (News.fresh (h₀ := g) (by k_asm) (by k_mem)) (by simp only [AllNe, and_true]; omega)
end
section
local macro_rules | `(tactic| walk_at "call ref") => `(tactic| (k_here; (with_reducible show wpAny _ _ (call (Value.ref 542) _) _ _ _); k_dflt (refine' use_ctr (c_next ?k1 ?k2 ?k3 ?k4 ?k5 ?kK ?mr ?ml ?hI ?hlen ?ht ?ht2 ?hk0 ?hk1 ?hr ?_) ?e ?d ?u; (case e => exact rfl); (case d => exact Nat.le_of_ble_eq_true rfl); (case u => exact Nat.le_of_ble_eq_true rfl); (case k1 => k_asm); (case k2 => k_asm); (case k3 => k_asm); (case k4 => k_asm); (case k5 => k_asm); (case kK => first | exact rfl | assumption); (case mr => k_mem); (case ml => k_mem); (case hI => assumption); (case hlen => assumption); (case ht => omega); (case ht2 => omega); (case hk0 => decide); (case hk1 => decide); (case hr => omega); k_whole; intro v' t1' t2' h' tk' v0' v1' F' hN'; (have N' := hN' _ (by k_upd)); clear hN'; (try k_sweep); (try dsimp only))))
local macro_rules | `(tactic| walk_at "call ref") => `(tactic| (k_here; (with_reducible show wpAny _ _ (call (Value.ref 542) [Value.ref _, Value.int 4 _]) _ _ _); k_dflt (refine' use_ctr (c_next ?k1 ?k2 ?k3 ?k4 ?k5 ?kK ?mr ?ml ?hI ?hlen ?ht ?ht2 ?hk0 ?hk1 ?hr ?_) ?e ?d ?u; (case e => exact rfl); (case d => exact Nat.le_of_ble_eq_true rfl); (case u => exact Nat.le_of_ble_eq_true rfl); (case k1 => k_asm); (case k2 => k_asm); (case k3 => k_asm); (case k4 => k_asm); (case k5 => k_asm); (case kK => first | exact rfl | assumption); (case mr => k_mem); (case ml => k_mem); (case hI => assumption); (case hlen => assumption); (case ht => omega); (case ht2 => omega); (case hk0 => decide); (case hk1 => decide); (case hr => omega); k_whole; intro v' t1' t2' h' tk' v0' v1' F' hN'; (have N' := hN' _ (by k_upd)); clear hN'; (have hv' : v' = 0 ∨ v' = 1 ∨ v' = 2 ∨ v' = 3 := by omega); clear v0' v1'; (rcases hv' with e' | e' | e' | e') <;> (subst e'; (try k_sweep); (try dsimp only)))))
local macro_rules | `(tactic| walk_at "call ref") => `(tactic| (k_here; (with_reducible show wpAny _ _ (call (Value.ref 363) _) _ _ _); k_dflt (refine' use_ctr (c_settext ?k1 ?k2 ?k3 ?k4 ?k5 ?kK ?hkey ?mx ?md ?ma ?mn ?h1 ?h2 ?h3 ?_) ?e ?d ?u; (case e => exact rfl); (case d => exact Nat.le_of_ble_eq_true rfl); (case u => exact Nat.le_of_ble_eq_true rfl); (case k1 => k_asm); (case k2 => k_asm); (case k3 => k_asm); (case k4 => k_asm); (case k5 => k_asm); (case kK => first | exact rfl | assumption); (case hkey => first | exact Or.inl rfl | exact Or.inr rfl); (case mx => k_mem); (case md => k_mem); (case ma => k_mem); (case mn => k_mem); (case h1 => omega); (case h2 => omega); (case h3 => omega); k_whole; intro l2' n2' d2' la2' v1' v2' v4' v5' v8' v9' k0' k1' k2' k3' nn' sz' h' tk' ne1' ne2' ne3' F' hN'; (have N' := hN' _ (by k_upd)); clear hN'; (try dsimp only [List.cons_append, List.nil_append] at N'); (try k_sweep); (try dsimp only))))
local macro_rules | `(tactic| walk_at "call ref") => `(tactic| (k_here; (with_reducible show wpAny _ _ (call (Value.ref 491) _) _ _ _); k_dflt (refine' use_ctr (c_table ?k1 ?k2 ?k3 ?k4 ?k5 ?kK ?_) ?e ?d ?u; (case e => exact rfl); (case d => exact Nat.le_of_ble_eq_true rfl); (case u => exact Nat.le_of_ble_eq_true rfl); (case k1 => k_asm); (case k2 => k_asm); (case k3 => k_asm); (case k4 => k_asm); (case k5 => k_asm); (case kK => first | exact rfl | assumption); k_whole; intro x' d' la' ln' t0' t1' t2' t3' t4' t5' t6' t7' t8' t9' u1' u2' u4' u5' u8' u9' n1' n2' h' tk' l1 o1' o2' o3' F' N'; (try dsimp only [List.cons_append, List.nil_append] at N'); (try k_lt l1); (try k_sweep); (try dsimp only))))
theorem c_meta {r l : Addr} {t : Int} {tk : Tok} {n n2 : Nat} {vs : List Value} {ns : List Int} {num : Value}
    (B : Below A₀ base outer h₀) (F : Fr h₀ L s.heap m) (X : (KK w.params).In h₀)
    (N : News h₀ L s.heap led) (T : Top p lo mean mg mb h₀) (hk : cs.kind = .function)
    (mr : (r, listOf #[.ref l, .int t tk] n) ∈ led) (ml : (l, listOf vs.toArray n2) ∈ led)
    (hI : IntsAre vs ns) (hlen : ns.length ≤ 30) (ht : 0 ≤ t) (ht2 : t ≤ 100) (hr : @LT.lt Nat _ l r)
    (ret : ∀ (q : Addr) (made ans : Value) (tabs : List (Addr × Obj)) (t1 : Tok) (h' : Heap) (tk' : Nat), (∀ p ∈ led, p.1 ≠ q) → (∀ p' ∈ tabs, ∀ p ∈ led, p.1 ≠ p'.1) → MetaIn w tabs made ans → Fr h₀ L h' m →
      (∀ led', Upd r (listOf #[.ref l, .int t tk] n) (listOf #[.ref l, .int (t + 1) t1] n) led led' → News h₀ L h' (((q, tupOf #[made, ans]) :: tabs) ++ led')) → Q (.ref q) { s with heap := h', toks := tk' }) :
    wpAny (model PySem.Challenge.rw_rh0165_01.row.prog w) (topA 450 3000 gd cn cs L a ccd cl outer) (call (.ref 549) [.ref r, num]) Q E s := by
  revert X; k_fill; intro X
  refine wpAny_call ?_
  have hs : ∀ q ∈ [(r, listOf #[.ref l, .int t tk] n), (l, listOf vs.toArray n2)], q ∈ led := by repeat (first | exact List.forall_mem_nil _ | with_reducible assumption | refine List.forall_mem_cons.mpr ⟨by assumption, ?_⟩)
  w_strict (k_dflt (refine' enter_ro [("number", num), ("rope", .ref r)] _ B F X N hs T ?kA ?kF ?kK ?k6 ?k7 ?k8 ?k9 ?kB ?c2 ?c3 ?c4 ?c5 ?_; (case kA => exact rfl); (case kF => exact rfl); (case kK => first | exact rfl | assumption); (case k6 => k_is); (case k7 => k_is); (case k8 => exact Nat.le_of_ble_eq_true rfl); (case k9 => exact BindsTo.of_eq (by kernel_rfl!)); (case kB => kernel_rfl!); (case c2 => exact rfl); (case c3 => exact rfl); (case c4 => exact rfl); (case c5 => kernel_rfl!); k_whole; intro g L1 h1 tk1 HK FG F1 N1 B1 X1 T1; (try dsimp only); (try k_fold)))
  k_steps
  · rename_i kN _ _
    refine' ret _ _ _ [] _ _ _ ?nq ?nt ?mi ?F ?NN
    case F => k_asm
    case NN =>
      intro led' U
      have k5 := news_l (a := [_]) (b := [_, _]) kN
      refine news_app ?x ?y
      case x => exact k5
      case y => exact led_upd HK N hs (by k_asm) (by refine cb_drop (by k_asm) ?_; lcg_sub) led' U
    case nq => exact led_apart' HK (News.fresh (h₀ := g) (by k_asm) (by k_mem)) ⟨by (first | exact neF (by assumption) (by k_mem) | omega), by (first | exact neF (by assumption) (by k_mem) | omega), trivial⟩
    case nt => exact List.forall_mem_nil _
    case mi => exact MetaIn.none
  all_goals
    rename_i kN _ _
    refine' ret _ _ _ [_, _, _, _, _, _, _, _, _] _ _ _ ?nq ?nt ?mi ?F ?NN
    case F => k_asm
    case NN =>
      intro led' U
      have k5 := news_l (a := _ :: [_, _, _, _, _, _, _, _, _]) (b := [_, _]) kN
      refine news_app ?x ?y
      case x => exact k5
      case y => exact led_upd HK N hs (by k_asm) (by refine cb_drop (by k_asm) ?_; lcg_sub) led' U
    case nq => exact led_apart' HK (News.fresh (h₀ := g) (by k_asm) (by k_mem)) ⟨by (first | exact neF (by assumption) (by k_mem) | omega), by (first | exact neF (by assumption) (by k_mem) | omega), trivial⟩
    case nt => (repeat (first | exact List.forall_mem_nil _ | refine List.forall_mem_cons.mpr ⟨led_apart' HK (News.fresh (h₀ := g) (by k_asm) (by k_mem)) ⟨by (first | exact neF (by assumption) (by k_mem) | omega), by (first | exact neF (by assumption) (by k_mem) | omega), trivial⟩, ?_⟩))
    case mi => first
      | exact MetaIn.hit (by k_mem) (by k_mem) (by k_mem) (by k_mem) (by k_mem) (Or.inl ⟨_, rfl⟩)
      | exact MetaIn.hit (by k_mem) (by k_mem) (by k_mem) (by k_mem) (by k_mem) (Or.inr rfl)
      | exact MetaIn.miss (by k_mem) (by k_mem) (by k_mem) (by k_mem) (by k_mem)
end
section
local macro_rules | `(tactic| walk_at "call ref") => `(tactic| (k_here; (with_reducible show wpAny _ _ (call (Value.ref 514) _) _ _ _); k_dflt (refine' use_ctr (c_tm ?k1 ?k2 ?k3 ?k4 ?k5 ?kK ?H ?ht ?hi ?_) ?e ?d ?u; (case e => exact rfl); (case d => exact Nat.le_of_ble_eq_true rfl); (case u => exact Nat.le_of_ble_eq_true rfl); (case k1 => k_asm); (case k2 => k_asm); (case k3 => k_asm); (case k4 => k_asm); (case k5 => k_asm); (case kK => first | exact rfl | assumption); (case H => with_reducible assumption); (case hi => with_reducible assumption); (case ht => with_reducible assumption); k_whole; intro h' tk' F' N'; (try k_sweep); (try dsimp only))))
theorem c_len {gl : Addr} {v : Value} {mv ans mn ansn : Value} {tabs : List (Addr × Obj)}
    (B : Below A₀ base outer h₀) (F : Fr h₀ L s.heap m) (X : (KK w.params).In h₀)
    (N : News h₀ L s.heap led) (T : Top p lo mean mg mb h₀) (hk : cs.kind = .function)
    (hg : GMok w gl v mv led) (hg0 : GMok w gl .none mn led) (ht : ∀ p ∈ tabs, p ∈ led) (hmin : MetaIn w tabs mn ansn) (hmi : MetaIn w tabs mv ans)
    (ret : ∀ (h' : Heap) (tk' : Nat), Fr h₀ L h' m → News h₀ L h' led → Q (orNil ans ansn) { s with heap := h', toks := tk' }) :
    wpAny (model PySem.Challenge.rw_rh0165_01.row.prog w) (topA 440 2500 gdd cn cs L a ccd cl outer) (call (.ref 521) [.ref gl, v]) Q E s := by
  revert X; k_fill; intro X
  rcases hmi.kind with rfl | ⟨t9, rfl⟩ | rfl
  · refine wpAny_call ?_
    have hs : ∀ q ∈ led, q ∈ led := fun _ h => h
    w_strict (k_dflt (refine' enter_ro [("value", v), ("glob", .ref gl)] _ B F X N hs T ?kA ?kF ?kK ?k6 ?k7 ?k8 ?k9 ?kB ?c2 ?c3 ?c4 ?c5 ?_; (case kA => exact rfl); (case kF => exact rfl); (case kK => first | exact rfl | assumption); (case k6 => k_is); (case k7 => k_is); (case k8 => exact Nat.le_of_ble_eq_true rfl); (case k9 => exact BindsTo.of_eq (by kernel_rfl!)); (case kB => kernel_rfl!); (case c2 => exact rfl); (case c3 => exact rfl); (case c4 => exact rfl); (case c5 => kernel_rfl!); k_whole; intro g L1 h1 tk1 HK FG F1 N1 B1 X1 T1; (try dsimp only); (try k_fold)))
    k_steps
    exact ret _ _ (by k_asm) (led_back HK N hs (by k_asm) (by k_asm))
  · refine wpAny_call ?_
    have hs : ∀ q ∈ led, q ∈ led := fun _ h => h
    w_strict (k_dflt (refine' enter_ro [("value", v), ("glob", .ref gl)] _ B F X N hs T ?kA ?kF ?kK ?k6 ?k7 ?k8 ?k9 ?kB ?c2 ?c3 ?c4 ?c5 ?_; (case kA => exact rfl); (case kF => exact rfl); (case kK => first | exact rfl | assumption); (case k6 => k_is); (case k7 => k_is); (case k8 => exact Nat.le_of_ble_eq_true rfl); (case k9 => exact BindsTo.of_eq (by kernel_rfl!)); (case kB => kernel_rfl!); (case c2 => exact rfl); (case c3 => exact rfl); (case c4 => exact rfl); (case c5 => kernel_rfl!); k_whole; intro g L1 h1 tk1 HK FG F1 N1 B1 X1 T1; (try dsimp only); (try k_fold)))
    k_steps
    exact ret _ _ (by k_asm) (led_back HK N hs (by k_asm) (by k_asm))
  · refine wpAny_call ?_
    have hs : ∀ q ∈ led, q ∈ led := fun _ h => h
    w_strict (k_dflt (refine' enter_ro [("value", v), ("glob", .ref gl)] _ B F X N hs T ?kA ?kF ?kK ?k6 ?k7 ?k8 ?k9 ?kB ?c2 ?c3 ?c4 ?c5 ?_; (case kA => exact rfl); (case kF => exact rfl); (case kK => first | exact rfl | assumption); (case k6 => k_is); (case k7 => k_is); (case k8 => exact Nat.le_of_ble_eq_true rfl); (case k9 => exact BindsTo.of_eq (by kernel_rfl!)); (case kB => kernel_rfl!); (case c2 => exact rfl); (case c3 => exact rfl); (case c4 => exact rfl); (case c5 => kernel_rfl!); k_whole; intro g L1 h1 tk1 HK FG F1 N1 B1 X1 T1; (try dsimp only); (try k_fold)))
    k_steps
    exact ret _ _ (by k_asm) (led_back HK N hs (by k_asm) (by k_asm))
end
/-- the same contract, upon any ledger that holds this one -/
def GMup (w : World) (gl : Addr) (v mv : Value) (led : List (Addr × Obj)) : Prop := ∀ led', (∀ p ∈ led, p ∈ led') → GMok w gl v mv led'
theorem GMup.at {w : World} {gl : Addr} {v mv : Value} {led led' : List (Addr × Obj)} (H : GMup w gl v mv led) (hs : ∀ p ∈ led, p ∈ led') : GMok w gl v mv led' := H led' hs
section
local macro_rules | `(tactic| walk_at "eval Name") => `(tactic| (k_here; k_dflt (refine' nm_L ?F ?hx ?hk ?hd ?hv ?_; (case F => k_asm); (case hx => kernel_rfl!); (case hk => exact rfl); (case hd => kernel_rfl!); (case hv => ((try dsimp only); (repeat (first | with_reducible exact lk_hit | with_reducible exact lki_hit | (with_reducible refine' Eq.trans (lk_skip ?n) ?_; (case n => kernel_rfl!)) | (with_reducible refine' Eq.trans (lki_skip ?n) ?_; (case n => kernel_rfl!)) | with_reducible assumption)))); k_whole)))
local macro_rules | `(tactic| k_mem) => `(tactic| ((repeat (first | with_reducible assumption | with_reducible exact List.mem_cons_self | with_reducible refine List.mem_cons_of_mem _ ?_)); done))
local macro_rules | `(tactic| walk_at "subscriptTail") => `(tactic| (k_here; (with_reducible show wpAny _ _ (subscriptTail _ _ (Value.ref _) (Value.int _ _)) _ _ _); k_dflt (refine' item_at ?N ?hm ?h0 ?h1 ?hx ?_ ?hs; (case N => k_asm); (case hm => k_mem); (case h0 => decide); (case h1 => decide); (case hx => with_reducible first | exact it0 | exact it1 | exact it2 | exact it3 | exact it4 | exact it5); (case hs => with_unfolding_all rfl); k_whole)))
local macro_rules | `(tactic| walk_at "subscriptTail") => `(tactic| (k_here; (with_reducible show wpAny _ _ (subscriptTail _ _ (Value.ref _) (Value.int _ _)) _ _ _); k_dflt (refine' item_at ?N ?hm ?h0 ?h1 ?hx ?_ ?hs; (case N => k_asm); (case hm => k_mem); (case h0 => with_reducible assumption); (case h1 => omega); (case hx => with_reducible assumption); (case hs => with_unfolding_all rfl); k_whole)))
local macro_rules | `(tactic| walk_at "call ref") => `(tactic| (k_here; (with_reducible show wpAny _ _ (call (Value.ref 521) _) _ _ _); k_dflt (refine' use_ctr (c_len ?k1 ?k2 ?k3 ?k4 ?k5 ?kK ?hg ?h0 ?ht ?ni ?mi ?_) ?e ?d ?u; (case e => exact rfl); (case d => exact Nat.le_of_ble_eq_true rfl); (case u => exact Nat.le_of_ble_eq_true rfl); (case k1 => k_asm); (case k2 => k_asm); (case k3 => k_asm); (case k4 => k_asm); (case k5 => k_asm); (case kK => first | exact rfl | assumption); (case hg => (refine' GMup.at ?H ?hs; (case H => with_reducible assumption); (case hs => repeat (first | with_reducible assumption | with_reducible exact fun _ h => h | with_reducible refine sub_cons ?_)))); (case h0 => (refine' GMup.at ?H0 ?hs0; (case H0 => with_reducible assumption); (case hs0 => repeat (first | with_reducible assumption | with_reducible exact fun _ h => h | with_reducible refine sub_cons ?_)))); (case ni => with_reducible assumption); (case mi => with_reducible assumption); (case ht => repeat (first | with_reducible assumption | with_reducible refine sub_cons ?_)); k_whole; intro h' tk' F' N'; (try k_sweep); (try dsimp only [orNil]))))
local macro_rules | `(tactic| walk_at "exec For Tuple Call cons nil") => `(tactic| (k_here; (rename Fr _ _ _ _ => lF'); (with_unfolding_all refine' For_turns lF' ?_; k_whole)))
theorem c_asked {gl gd lim M out lv lvd uv ud uw ue vl al : Addr} {g0 g1 g2 g3 g4 g5 g6 g7 g8 g9 w8 w9 tv x0 x1 y0 y1 y2 y3 y4 y5 y6 z0 z1 z2 z3 a0 a1 a2 a3 a4 a5 a6 b0 b1 b2 b3 : Tok} {ub uc : Array UInt8} {o : Obj} {n nv na : Nat} {f : Int → Value} {q0 q1 q2 q3 q4 q5 r0 r1 r2 r3 r4 r5 : Value} {tabs : List (Addr × Obj)}
    (B : Below A₀ base outer h₀) (F : Fr h₀ L s.heap m) (X : (KK w.params).In h₀)
    (N : News h₀ L s.heap led) (T : Top p lo mean mg mb h₀) (hk : cs.kind = .function)
    (mg1 : (gl, instObj 211 gd) ∈ led) (mg2 : (gd, dictOf (globE w g0 g1 g2 g3 g4 g5 g6 g7 g8 g9 w8 w9 lim M out) 10) ∈ led) (mm : (M, o) ∈ led)
    (mlv : (lv, instObj 115 lvd) ∈ led) (mlv2 : (lvd, dictOf [en w "number" x0 (.int 3 x1)] 1) ∈ led)
    (mu : (uv, instObj 185 ud) ∈ led) (mud : (ud, dictOf (userE w y0 y1 y2 y3 y4 y5 y6 z0 z1 z2 z3 ub q4) 7) ∈ led)
    (mu' : (uw, instObj 185 ue) ∈ led) (mud' : (ue, dictOf (userE w a0 a1 a2 a3 a4 a5 a6 b0 b1 b2 b3 uc q5) 7) ∈ led)
    (mvl : (vl, listOf #[.none, .bool true, .int 5 tv, .ref lv, .ref uv, .ref uw] nv) ∈ led) (mal : (al, listOf #[r0, r1, r2, r3, r4, r5] na) ∈ led)
    (ht : ∀ p ∈ tabs, p ∈ led) (e0 : f 0 = q0) (i0 : MetaIn w tabs q0 r0) (e1 : f 1 = q1) (i1 : MetaIn w tabs q1 r1) (e2 : f 3 = q2) (i2 : MetaIn w tabs q2 r2) (e3 : f 2 = q3) (i3 : MetaIn w tabs q3 r3)
    (i4 : MetaIn w tabs q4 r4) (i5 : MetaIn w tabs q5 r5) (MI : MetasIs w n o f) (hlo : (M == sysModules) = false)
    (ret : ∀ (h' : Heap) (tk' : Nat), Fr h₀ L h' m → News h₀ L h' led → Q (.bool true) { s with heap := h', toks := tk' }) :
    wpAny (model PySem.Challenge.rw_rh0165_01.row.prog w) (topA 400 2200 gdd cn cs L a ccd cl outer) (call (.ref 556) [.ref gl, .ref vl, .ref al]) Q E s := by
  revert X; k_fill; intro X
  refine wpAny_call ?_
  have hs : ∀ q ∈ led, q ∈ led := fun _ h => h
  w_strict (k_dflt (refine' enter_ro [("answers", .ref al), ("values", .ref vl), ("glob", .ref gl)] _ B F X N hs T ?kA ?kF ?kK ?k6 ?k7 ?k8 ?k9 ?kB ?c2 ?c3 ?c4 ?c5 ?_; (case kA => exact rfl); (case kF => exact rfl); (case kK => first | exact rfl | assumption); (case k6 => k_is); (case k7 => k_is); (case k8 => exact Nat.le_of_ble_eq_true rfl); (case k9 => exact BindsTo.of_eq (by kernel_rfl!)); (case kB => kernel_rfl!); (case c2 => exact rfl); (case c3 => exact rfl); (case c4 => exact rfl); (case c5 => kernel_rfl!); k_whole; intro g L1 h1 tk1 HK FG F1 N1 B1 X1 T1; (try dsimp only); (try k_fold)))
  k_steps
  rename Fr g L1 h1 _ => F2
  w_strict (with_unfolding_all refine ktu_enum (lo := listOf #[.none, .bool true, .int 5 tv, .ref lv, .ref uv, .ref uw] nv) (vs := [.none, .bool true, .int 5 tv, .ref lv, .ref uv, .ref uw]) (xs := [.pair (fun t => Value.int 0 t) .none, .pair (fun t => Value.int 1 t) (.bool true), .pair (fun t => Value.int 2 t) (.int 5 tv), .pair (fun t => Value.int 3 t) (.ref lv), .pair (fun t => Value.int 4 t) (.ref uv), .pair (fun t => Value.int 5 t) (.ref uw)]) (by rfl) F2 N1 mvl (by rfl) (by rfl) (by rfl) ?_)
  intro I hI
  have hg0 : GMup w gl .none q0 led := fun _ h => c_gm_none (h _ mg1) (h _ mg2) (h _ mm) e0 MI hlo
  have hall : ∀ a ∈ ([.pair (fun t => Value.int 0 t) .none, .pair (fun t => Value.int 1 t) (.bool true), .pair (fun t => Value.int 2 t) (.int 5 tv), .pair (fun t => Value.int 3 t) (.ref lv), .pair (fun t => Value.int 4 t) (.ref uv), .pair (fun t => Value.int 5 t) (.ref uw)] : List Itm), ∃ (kx : Int) (vv mv rv : Value), a = .pair (fun t => Value.int kx t) vv ∧ 0 ≤ kx ∧ kx < 6 ∧ GMup w gl vv mv led ∧ MetaIn w tabs mv rv ∧ (#[r0, r1, r2, r3, r4, r5] : Array Value)[kx.toNat]? = some rv := by
    exact List.forall_mem_cons.mpr ⟨⟨_, _, _, _, rfl, by decide, by decide, (fun _ h => c_gm_none (h _ mg1) (h _ mg2) (h _ mm) e0 MI hlo), i0, rfl⟩, List.forall_mem_cons.mpr ⟨⟨_, _, _, _, rfl, by decide, by decide, (fun _ h => c_gm_bool (h _ mg1) (h _ mg2) (h _ mm) e1 MI hlo), i1, rfl⟩, List.forall_mem_cons.mpr ⟨⟨_, _, _, _, rfl, by decide, by decide, (fun _ h => c_gm_int (h _ mg1) (h _ mg2) (h _ mm) e2 MI hlo), i2, rfl⟩, List.forall_mem_cons.mpr ⟨⟨_, _, _, _, rfl, by decide, by decide, (fun _ h => c_gm_light (h _ mg1) (h _ mg2) (h _ mm) (h _ mlv) (h _ mlv2) e3 MI hlo), i3, rfl⟩, List.forall_mem_cons.mpr ⟨⟨_, _, _, _, rfl, by decide, by decide, (fun _ h => c_gm_user (h _ mu) (h _ mud) (MetaIn.none_or i4)), i4, rfl⟩, List.forall_mem_cons.mpr ⟨⟨_, _, _, _, rfl, by decide, by decide, (fun _ h => c_gm_user (h _ mu') (h _ mud') (MetaIn.none_or i5)), i5, rfl⟩, List.forall_mem_nil _⟩⟩⟩⟩⟩⟩
  refine items_of (fun m' n' => led = n' ∧ m' (PySem.Str.ofString "glob") = some (.ref gl) ∧ m' (PySem.Str.ofString "answers") = some (.ref al)) ?hz _ ?hstep _ _ ⟨rfl, by kernel_rfl!, by kernel_rfl!⟩
  case hz =>
    rintro m' _ ⟨rfl, hj1, hj2⟩ h' tk' F' N'
    have F' : Fr g L1 h' m' := F'
    have N' : News g L1 h' led := N'
    dsimp only
    k_steps
    all_goals exact ret _ _ (by k_asm) (led_back HK N hs (by k_asm) (by k_asm))
  case hstep =>
    intro a ha
    obtain ⟨kx, vv, mv, rv, rfl, hk0, hk6, hgm, hmi, hx⟩ := hall a ha
    clear hall ha mud mud' mu mu' mlv mlv2 mm mg1 mg2 e0 e1 e2 e3 i1 i2 i3 i4 i5 MI
    rintro m' _ ⟨rfl, hj1, hj2⟩ v' h' tk' hv' F'
    obtain ⟨T', t', rfl, hT'⟩ := hv'
    refine AllObj.cons fun o1 hc1 => AllObj.cons fun o2 hc2 => AllObj.nil fun N' => ?_
    have F' : Fr g L1 h' m' := F'
    have N' : News g L1 h' ((I + 1, o1) :: (I, o2) :: led) := N'
    dsimp only at hT'
    rcases hmi.kind with rfl | ⟨t9, rfl⟩ | rfl
    · rcases i0.kind with rfl | ⟨t9, rfl⟩ | rfl
      all_goals k_steps
      all_goals exact turn_end (by k_asm) (by k_asm) hI ⟨mvl, trivial⟩ ⟨rfl, (by (try dsimp only); (repeat (first | with_reducible exact lki_hit | (with_reducible refine' Eq.trans (lki_skip ?n) ?_; (case n => kernel_rfl!)) | with_reducible assumption))), (by (try dsimp only); (repeat (first | with_reducible exact lki_hit | (with_reducible refine' Eq.trans (lki_skip ?n) ?_; (case n => kernel_rfl!)) | with_reducible assumption)))⟩
    · k_steps
      exact turn_end (by k_asm) (by k_asm) hI ⟨mvl, trivial⟩ ⟨rfl, (by (try dsimp only); (repeat (first | with_reducible exact lki_hit | (with_reducible refine' Eq.trans (lki_skip ?n) ?_; (case n => kernel_rfl!)) | with_reducible assumption))), (by (try dsimp only); (repeat (first | with_reducible exact lki_hit | (with_reducible refine' Eq.trans (lki_skip ?n) ?_; (case n => kernel_rfl!)) | with_reducible assumption)))⟩
    · k_steps
      exact turn_end (by k_asm) (by k_asm) hI ⟨mvl, trivial⟩ ⟨rfl, (by (try dsimp only); (repeat (first | with_reducible exact lki_hit | (with_reducible refine' Eq.trans (lki_skip ?n) ?_; (case n => kernel_rfl!)) | with_reducible assumption))), (by (try dsimp only); (repeat (first | with_reducible exact lki_hit | (with_reducible refine' Eq.trans (lki_skip ?n) ?_; (case n => kernel_rfl!)) | with_reducible assumption)))⟩
end
/-- a kind's metatable is set: the contract, to be handed on -/
def SetOK (w : World) (gl M : Addr) (v : Value) (i : Nat) (TT : List (Addr × Obj)) : Prop :=
  ∀ (p : Program) (lo : List Str) (mean : ExcName → Option Value) (mg mb : Str → Option Value) (gdd : Option (List Code)) (cn : Str) (cs : Scope) (a L : Addr) (ccd : Value) (cl : List (Str × Addr)) (outer : List Env) (A₀ : Around) (base h₀ : Heap) (m : Str → Option Value) (s : Shared) (Q E : Value → Shared → Prop) (led : List (Addr × Obj)) (o : Obj) (n : Nat) (q : Nat → Value) (mt : Value),
    (∀ p ∈ TT, p ∈ led) → Below A₀ base outer h₀ → Fr h₀ L s.heap m → (KK w.params).In h₀ → News h₀ L s.heap led → Top p lo mean mg mb h₀ → cs.kind = .function →
    (M, o) ∈ led → (mt = .none ∨ ∃ x, mt = .ref x) → MetasIs w n o (fqN q) → n ≤ 50 →
    (∀ (o' : Obj) (h' : Heap) (tk' : Nat), MetasIs w (n + 1) o' (fqN (updN q i mt)) → Fr h₀ L h' m → (∀ led', Upd M o o' led led' → News h₀ L h' led') → Q .none { s with heap := h', toks := tk' }) →
    wpAny (model PySem.Challenge.rw_rh0165_01.row.prog w) (topA 450 3000 gdd cn cs L a ccd cl outer) (call (.ref 507) [.ref gl, v, mt]) Q E s
theorem SetOK.use {gl M : Addr} {v : Value} {i : Nat} {TT : List (Addr × Obj)} {o : Obj} {n : Nat} {q : Nat → Value} {mt : Value} (H : SetOK w gl M v i TT) (ht : ∀ p ∈ TT, p ∈ led)
    (B : Below A₀ base outer h₀) (F : Fr h₀ L s.heap m) (X : (KK w.params).In h₀)
    (N : News h₀ L s.heap led) (T : Top p lo mean mg mb h₀) (hk : cs.kind = .function)
    (mm : (M, o) ∈ led) (hm : mt = .none ∨ ∃ x, mt = .ref x) (MI : MetasIs w n o (fqN q)) (hn : n ≤ 50)
    (ret : ∀ (o' : Obj) (h' : Heap) (tk' : Nat), MetasIs w (n + 1) o' (fqN (updN q i mt)) → Fr h₀ L h' m → (∀ led', Upd M o o' led led' → News h₀ L h' led') → Q .none { s with heap := h', toks := tk' }) :
    wpAny (model PySem.Challenge.rw_rh0165_01.row.prog w) (topA 450 3000 gdd cn cs L a ccd cl outer) (call (.ref 507) [.ref gl, v, mt]) Q E s := H _ _ _ _ _ _ _ _ _ _ _ _ _ _ _ _ _ _ _ _ _ _ _ _ _ ht B F X N T hk mm hm MI hn ret
/-- the first four values -/
def valN (tv : Tok) (lv : Addr) (i : Nat) : Value := match i with | 0 => .none | 1 => .bool true | 2 => .int 5 tv | _ => .ref lv
theorem LS5.setN {gl gd lim out lv lvd uv ud uw ue vl al M r l I : Addr} {g0 g1 g2 g3 g4 g5 g6 g7 g8 g9 w8 w9 tv x0 x1 : Tok} {nv n2 : Nat} {ws : List Value} {q r' : Nat → Value} {TT : List (Addr × Obj)} (S : LS5 w gl gd lim out lv lvd uv ud uw ue vl al M r l I g0 g1 g2 g3 g4 g5 g6 g7 g8 g9 w8 w9 tv x0 x1 nv n2 ws q r' TT) (hlo : (M == sysModules) = false) {i : Nat} (hi : i < 4) : SetOK w gl M (valN tv lv i) i TT := by
  intro p lo mean mg mb gdd cn cs a L ccd cl outer A₀ base h₀ m s Q E led o n q mt ht B F X N T hk mm hm MI hn ret
  have h : i = 0 ∨ i = 1 ∨ i = 2 ∨ i = 3 := by omega
  rcases h with rfl | rfl | rfl | rfl
  · exact c_set_none B F X N T hk (ht _ S.mg1) (ht _ S.mg2) mm hm MI hn hlo (S.n4 _ S.mg1) (S.n4 _ S.mg2) fun o' h' tk' M' => ret o' h' tk' (M'.eq (fqN_set (i := 0) (by decide)))
  · exact c_set_bool B F X N T hk (ht _ S.mg1) (ht _ S.mg2) mm hm MI hn hlo (S.n4 _ S.mg1) (S.n4 _ S.mg2) fun o' h' tk' M' => ret o' h' tk' (M'.eq (fqN_set (i := 1) (by decide)))
  · exact c_set_int B F X N T hk (ht _ S.mg1) (ht _ S.mg2) mm hm MI hn hlo (S.n4 _ S.mg1) (S.n4 _ S.mg2) fun o' h' tk' M' => ret o' h' tk' (M'.eq (fqN_set (i := 2) (by decide)))
  · exact c_set_light B F X N T hk (ht _ S.mg1) (ht _ S.mg2) mm (ht _ S.mlv) (ht _ S.mlv2) (S.n4 _ S.mlv) (S.n4 _ S.mlv2) hm MI hn hlo (S.n4 _ S.mg1) (S.n4 _ S.mg2) fun o' h' tk' M' => ret o' h' tk' (M'.eq (fqN_set (i := 3) (by decide)))
theorem LS5.pick {gl gd lim out lv lvd uv ud uw ue vl al M r l I : Addr} {g0 g1 g2 g3 g4 g5 g6 g7 g8 g9 w8 w9 tv x0 x1 : Tok} {nv n2 : Nat} {ws : List Value} {q r' : Nat → Value} {TT : List (Addr × Obj)} (S : LS5 w gl gd lim out lv lvd uv ud uw ue vl al M r l I g0 g1 g2 g3 g4 g5 g6 g7 g8 g9 w8 w9 tv x0 x1 nv n2 ws q r' TT) (hlo : (M == sysModules) = false) {k : Int} (h0 : 0 ≤ k) (h4 : k < 4) :
    ∃ vv, (#[.none, .bool true, .int 5 tv, .ref lv, .ref uv, .ref uw] : Array Value)[k.toNat]? = some vv ∧ SetOK w gl M vv k.toNat TT := by
  refine ⟨valN tv lv k.toNat, ?_, S.setN hlo (by omega)⟩
  have h : k = 0 ∨ k = 1 ∨ k = 2 ∨ k = 3 := by omega
  rcases h with rfl | rfl | rfl | rfl <;> rfl
theorem updN_ne {f : Nat → Value} {i k : Nat} {v : Value} (h : k ≠ i) : updN f i v k = f k := if_neg h
theorem LS5.putk {gl gd lim out lv lvd uv ud uw ue vl al M r l I : Addr} {g0 g1 g2 g3 g4 g5 g6 g7 g8 g9 w8 w9 tv x0 x1 : Tok} {nv n2 : Nat} {ws : List Value} {q r' : Nat → Value} {TT : List (Addr × Obj)} {k : Int} {vv mv an : Value} (S : LS5 w gl gd lim out lv lvd uv ud uw ue vl al M r l I g0 g1 g2 g3 g4 g5 g6 g7 g8 g9 w8 w9 tv x0 x1 nv n2 ws q r' TT) (_ : SetOK w gl M vv k.toNat TT) (h4 : k < 4) (h : MetaIn w TT mv an) :
    LS5 w gl gd lim out lv lvd uv ud uw ue vl al M r l I g0 g1 g2 g3 g4 g5 g6 g7 g8 g9 w8 w9 tv x0 x1 nv n2 ws (updN q k.toNat mv) (updN r' k.toNat an) TT ∧ MetaIn w TT (q 4) (updN r' k.toNat an 4) ∧ MetaIn w TT (q 5) (updN r' k.toNat an 5) :=
  ⟨S.put _ h, by rw [updN_ne (by omega)]; exact S.mi 4, by rw [updN_ne (by omega)]; exact S.mi 5⟩
theorem set6 {f : Nat → Value} {i : Nat} {v : Value} (h : i < 6) : ([f 0, f 1, f 2, f 3, f 4, f 5] : List Value).set i v = [updN f i v 0, updN f i v 1, updN f i v 2, updN f i v 3, updN f i v 4, updN f i v 5] := by
  have h : i = 0 ∨ i = 1 ∨ i = 2 ∨ i = 3 ∨ i = 4 ∨ i = 5 := by omega
  rcases h with rfl | rfl | rfl | rfl | rfl | rfl <;> rfl
/-- an answer is put in another's place -/
theorem ans_set {D : Addr} {f : Nat → Value} {n : Nat} {k : Int} {t : Tok} {v : Value} {news news' : List (Addr × Obj)} {A : Around} {E : Value → Shared → Prop} {Q : Unit → Shared → Prop} (F : Fr h₀ L s.heap m) (N : News h₀ L s.heap news)
    (U : Upd D (listOf #[f 0, f 1, f 2, f 3, f 4, f 5] n) (listOf #[updN f k.toNat v 0, updN f k.toNat v 1, updN f k.toNat v 2, updN f k.toNat v 3, updN f k.toNat v 4, updN f k.toNat v 5] n) news news') (h0 : 0 ≤ k) (h1 : k < 6)
    (h : ∀ h', Fr h₀ L h' m → News h₀ L h' news' → Q () { s with heap := h' }) :
    wpAny (model PySem.Challenge.rw_rh0165_01.row.prog w) A (setItem (.ref D) (.int k t) v) Q E s := by
  obtain ⟨pre, post, rfl, rfl, a, b⟩ := U.split
  have z := N (D, listOf #[f 0, f 1, f 2, f 3, f 4, f 5] n) (List.mem_append.mpr (.inr (.head _)))
  have hj : k.toNat < 6 := by omega
  refine ki_setAt z.1 h0 (by omega) (show k < ((6 : Nat) : Int) by omega) (h _ (F.change (Heap.SameBut.update ..) z.2.1 z.2.2) (ki_turn _ N a b ?_ ?_))
  · show (List.toArray [f 0, f 1, f 2, f 3, f 4, f 5]).setIfInBounds k.toNat v = _
    rw [← set6 hj]
    apply Array.toList_inj.mp
    simp
  · rfl
section
local macro_rules | `(tactic| walk_at "call ref") => `(tactic| (k_here; (with_reducible show wpAny _ _ (call (Value.ref 542) _) _ _ _); k_dflt (refine' use_ctr (c_next ?k1 ?k2 ?k3 ?k4 ?k5 ?kK ?mr ?ml ?hI ?hlen ?ht ?ht2 ?hk0 ?hk1 ?hr ?_) ?e ?d ?u; (case e => exact rfl); (case d => exact Nat.le_of_ble_eq_true rfl); (case u => exact Nat.le_of_ble_eq_true rfl); (case k1 => k_asm); (case k2 => k_asm); (case k3 => k_asm); (case k4 => k_asm); (case k5 => k_asm); (case kK => first | exact rfl | assumption); (case mr => k_mem); (case ml => k_mem); (case hI => assumption); (case hlen => assumption); (case ht => omega); (case ht2 => omega); (case hk0 => decide); (case hk1 => decide); (case hr => omega); k_whole; intro v' t1' t2' h' tk' v0' v1' F' hN'; (have N' := hN' _ (by k_upd)); clear hN'; (try k_sweep); (try dsimp only))))
local macro_rules | `(tactic| walk_at "call ref") => `(tactic| (k_here; (with_reducible show wpAny _ _ (call (Value.ref 542) [Value.ref _, Value.int 4 _]) _ _ _); k_dflt (refine' use_ctr (c_next ?k1 ?k2 ?k3 ?k4 ?k5 ?kK ?mr ?ml ?hI ?hlen ?ht ?ht2 ?hk0 ?hk1 ?hr ?_) ?e ?d ?u; (case e => exact rfl); (case d => exact Nat.le_of_ble_eq_true rfl); (case u => exact Nat.le_of_ble_eq_true rfl); (case k1 => k_asm); (case k2 => k_asm); (case k3 => k_asm); (case k4 => k_asm); (case k5 => k_asm); (case kK => first | exact rfl | assumption); (case mr => k_mem); (case ml => k_mem); (case hI => assumption); (case hlen => assumption); (case ht => omega); (case ht2 => omega); (case hk0 => decide); (case hk1 => decide); (case hr => omega); k_whole; intro v' t1' t2' h' tk' v0' v1' F' hN'; (have N' := hN' _ (by k_upd)); clear hN'; (have hv' : v' = 0 ∨ v' = 1 ∨ v' = 2 ∨ v' = 3 := by omega); clear v0' v1'; (rcases hv' with e' | e' | e' | e') <;> (subst e'; (try k_sweep); (try dsimp only)))))
local macro_rules | `(tactic| walk_at "call ref") => `(tactic| (k_here; (with_reducible show wpAny _ _ (call (Value.ref 53) _) _ _ _); k_dflt (refine' use_ctr (c_limits ?k1 ?k2 ?k3 ?k4 ?k5 ?kK ?_) ?e ?d ?u; (case e => exact rfl); (case d => exact Nat.le_of_ble_eq_true rfl); (case u => exact Nat.le_of_ble_eq_true rfl); (case k1 => k_asm); (case k2 => k_asm); (case k3 => k_asm); (case k4 => k_asm); (case k5 => k_asm); (case kK => first | exact rfl | assumption); k_whole; intro x' h' tk' l1 F' N'; (try dsimp only [List.cons_append, List.nil_append] at N'); (try k_lt l1); (try k_sweep); (try dsimp only))))
local macro_rules | `(tactic| walk_at "call ref") => `(tactic| (k_here; (with_reducible show wpAny _ _ (call (Value.ref 115) _) _ _ _); k_dflt (refine' use_ctr (c_light ?k1 ?k2 ?k3 ?k4 ?k5 ?kK ?_) ?e ?d ?u; (case e => exact rfl); (case d => exact Nat.le_of_ble_eq_true rfl); (case u => exact Nat.le_of_ble_eq_true rfl); (case k1 => k_asm); (case k2 => k_asm); (case k3 => k_asm); (case k4 => k_asm); (case k5 => k_asm); (case kK => first | exact rfl | assumption); k_whole; intro x' d' t' h' tk' l1 l2 F' N'; (try dsimp only [List.cons_append, List.nil_append] at N'); (try k_lt l1); (try k_sweep); (try dsimp only))))
local macro_rules | `(tactic| walk_at "call ref") => `(tactic| (k_here; (with_reducible show wpAny _ _ (call (Value.ref 185) _) _ _ _); k_dflt (refine' use_ctr (c_userd ?k1 ?k2 ?k3 ?k4 ?k5 ?kK ?_) ?e ?d ?u; (case e => exact rfl); (case d => exact Nat.le_of_ble_eq_true rfl); (case u => exact Nat.le_of_ble_eq_true rfl); (case k1 => k_asm); (case k2 => k_asm); (case k3 => k_asm); (case k4 => k_asm); (case k5 => k_asm); (case kK => first | exact rfl | assumption); k_whole; intro x' d' y0' y1' y2' y3' y4' y5' y6' z0' z1' z2' h' tk' l1 l2 F' N'; (try dsimp only [List.cons_append, List.nil_append] at N'); (try k_lt l1); (try k_sweep); (try dsimp only))))
local macro_rules | `(tactic| walk_at "call ref") => `(tactic| (k_here; (with_reducible show wpAny _ _ (call (Value.ref 211) _) _ _ _); k_dflt (refine' use_ctr (c_global ?k1 ?k2 ?k3 ?k4 ?k5 ?kK ?_) ?e ?d ?u; (case e => exact rfl); (case d => exact Nat.le_of_ble_eq_true rfl); (case u => exact Nat.le_of_ble_eq_true rfl); (case k1 => k_asm); (case k2 => k_asm); (case k3 => k_asm); (case k4 => k_asm); (case k5 => k_asm); (case kK => first | exact rfl | assumption); k_whole; intro x' d' m' u' o' g0' g1' g2' g3' g4' g5' g6' g7' g8' g9' w8' w9' n' h' tk' l1 l2 l3 l4 lo' hi' F' N'; (try dsimp only [List.cons_append, List.nil_append] at N'); (try k_lt l1); (try k_sweep); (try dsimp only))))
local macro_rules | `(tactic| walk_at "call type:enumerate") => `(tactic| (k_here; (with_reducible show wpAny _ _ (call (Value.type _) [Value.ref _]) (fun xv s₁ => wpAny _ _ (pyIter xv) (fun it s₂ => TurnsAt _ _ _ _ _ _ _ _ _ it s₂) _ s₁) _ _); ktu_enumCall; refine halt ?_))
local macro_rules | `(tactic| walk_at "eval Name") => `(tactic| (k_here; k_dflt (refine' nm_L ?F ?hx ?hk ?hd ?hv ?_; (case F => k_asm); (case hx => kernel_rfl!); (case hk => exact rfl); (case hd => kernel_rfl!); (case hv => ((try dsimp only); (repeat (first | with_reducible exact lk_hit | with_reducible exact lki_hit | (with_reducible refine' Eq.trans (lk_skip ?n) ?_; (case n => kernel_rfl!)) | (with_reducible refine' Eq.trans (lki_skip ?n) ?_; (case n => kernel_rfl!)) | with_reducible assumption)))); k_whole)))
/-- where the reverting ends -/
structure Marker : Prop where
  out : True
/-- what is to be shown, kept from sight -/
structure Holder (P : Prop) : Prop where
  out : P
def goalOf {H P : Prop} (h : Holder P → H) : { Q : Prop // Q → H } := ⟨P, fun p => h ⟨p⟩⟩
/-- the law's walk to its loop's start; what is left to show is kept as a statement of its own -/
def loopGoal : { P : Prop // P → PySem.Challenge.rw_rh0165_01.Holds } := by
  apply goalOf
  intro hP
  have hmark : Marker := ⟨trivial⟩
  refine of_row fun k1 => ?_
  refine holds_open (q := vw) (loose := loose) (Xt := fun s => xlAt vw lv s && recOk (RowW.records PySem.Challenge.rw_rh0165_01.row.toRowW) s) (XP := XL vw lv) (Yf := Hook.obs (kHook KK addrs addrs_eq)) (Ya := Hook.val (kHook KK addrs addrs_eq)) (YP := Hook.says (kHook KK addrs addrs_eq)) (N := 8344) ?hl (Hook.of (kHook KK addrs addrs_eq)) (Hook.keeps (kHook KK addrs addrs_eq)) (fun s e => xl_of s (Bool.and_eq_true_iff.mp e).1) XL.keeps (by rfl) (by rfl) (by rfl) (fun s e => recFacts_of (Bool.and_eq_true_iff.mp e).2) (by rfl) k1 (by decide +kernel) ⟨rfl, rfl, rfl, rfl, rfl, by decide +kernel⟩ ?hw ?hc
  case hl => exact left_top
  case hw => w_witness2
  case hc =>
    k_go0; (all_goals try k_fold)
    k_steps
    rename_i w _ sA _ _ _ _ _ _ _ _ _ _ _ _ _ _ _ _ _ _ _ _ _ _ _ _ _ ns _ _ _ _ _ _ _ sc vs _ _ _ _ _ _ _ _ _ _ _ _ l ws _ hIs hC _ zl56 r _ _ _ zl61 lim _ _ zl65 gl gd Ma out mo _ _ _ _ _ _ _ _ _ _ _ _ _ _ _ zl86 zl87 zl88 hlo hi zl91 D1 _ zl94 _ _ _ _ _ lv lvd _ _ _ zl105 zl106 uv ud _ _ _ _ _ _ _ _ _ _ _ _ zl121 zl122 uw ue _ _ _ _ _ _ _ _ _ _ _ _ zl137 zl138 vl _ zl141 al _ zl144 D0 _ zl147 _ _ _ _ _ N0 I zl155
    have c1 : @LT.lt Nat _ l r := by omega
    have c2 : @LT.lt Nat _ r gd := by omega
    have c3 : @LT.lt Nat _ gd gl := by omega
    have c4 : @LT.lt Nat _ gl Ma := by omega
    have c5 : @LT.lt Nat _ Ma lvd := by omega
    have c6 : @LT.lt Nat _ lvd lv := by omega
    have c7 : @LT.lt Nat _ lv ud := by omega
    have c8 : @LT.lt Nat _ ud uv := by omega
    have c9 : @LT.lt Nat _ uv ue := by omega
    have c10 : @LT.lt Nat _ ue uw := by omega
    have c11 : @LT.lt Nat _ uw vl := by omega
    have c12 : @LT.lt Nat _ vl al := by omega
    have c13 : @LT.lt Nat _ al I := by omega
    have hlen : (List.take 30 ns).length ≤ 30 := by omega
    clear hC zl56 zl61 zl65 zl86 zl87 zl88 zl91 zl94 zl105 zl106 zl121 zl122 zl137 zl138 zl141 zl144 zl147 zl155
    have n10 : @LT.lt Nat _ r Ma := by omega
    have n11 : Ap r Ma := Ap.lt n10
    have n12 : Ap Ma r := Ap.gt n10
    clear n10
    have n20 : @LT.lt Nat _ r ud := by omega
    have n21 : Ap r ud := Ap.lt n20
    have n22 : Ap ud r := Ap.gt n20
    clear n20
    have n30 : @LT.lt Nat _ r ue := by omega
    have n31 : Ap r ue := Ap.lt n30
    have n32 : Ap ue r := Ap.gt n30
    clear n30
    have n40 : @LT.lt Nat _ r al := by omega
    have n41 : Ap r al := Ap.lt n40
    have n42 : Ap al r := Ap.gt n40
    clear n40
    have n50 : @LT.lt Nat _ r I := by omega
    have n51 : Ap r I := Ap.lt n50
    have n52 : Ap I r := Ap.gt n50
    clear n50
    have n60 : @LT.lt Nat _ r (I + 1) := by omega
    have n61 : Ap r (I + 1) := Ap.lt n60
    have n62 : Ap (I + 1) r := Ap.gt n60
    clear n60
    have n70 : @LT.lt Nat _ Ma ud := by omega
    have n71 : Ap Ma ud := Ap.lt n70
    have n72 : Ap ud Ma := Ap.gt n70
    clear n70
    have n80 : @LT.lt Nat _ Ma ue := by omega
    have n81 : Ap Ma ue := Ap.lt n80
    have n82 : Ap ue Ma := Ap.gt n80
    clear n80
    have n90 : @LT.lt Nat _ Ma al := by omega
    have n91 : Ap Ma al := Ap.lt n90
    have n92 : Ap al Ma := Ap.gt n90
    clear n90
    have n100 : @LT.lt Nat _ Ma I := by omega
    have n101 : Ap Ma I := Ap.lt n100
    have n102 : Ap I Ma := Ap.gt n100
    clear n100
    have n110 : @LT.lt Nat _ Ma (I + 1) := by omega
    have n111 : Ap Ma (I + 1) := Ap.lt n110
    have n112 : Ap (I + 1) Ma := Ap.gt n110
    clear n110
    have n120 : @LT.lt Nat _ ud ue := by omega
    have n121 : Ap ud ue := Ap.lt n120
    have n122 : Ap ue ud := Ap.gt n120
    clear n120
    have n130 : @LT.lt Nat _ ud al := by omega
    have n131 : Ap ud al := Ap.lt n130
    have n132 : Ap al ud := Ap.gt n130
    clear n130
    have n140 : @LT.lt Nat _ ud I := by omega
    have n141 : Ap ud I := Ap.lt n140
    have n142 : Ap I ud := Ap.gt n140
    clear n140
    have n150 : @LT.lt Nat _ ud (I + 1) := by omega
    have n151 : Ap ud (I + 1) := Ap.lt n150
    have n152 : Ap (I + 1) ud := Ap.gt n150
    clear n150
    have n160 : @LT.lt Nat _ ue al := by omega
    have n161 : Ap ue al := Ap.lt n160
    have n162 : Ap al ue := Ap.gt n160
    clear n160
    have n170 : @LT.lt Nat _ ue I := by omega
    have n171 : Ap ue I := Ap.lt n170
    have n172 : Ap I ue := Ap.gt n170
    clear n170
    have n180 : @LT.lt Nat _ ue (I + 1) := by omega
    have n181 : Ap ue (I + 1) := Ap.lt n180
    have n182 : Ap (I + 1) ue := Ap.gt n180
    clear n180
    have n190 : @LT.lt Nat _ al I := by omega
    have n191 : Ap al I := Ap.lt n190
    have n192 : Ap I al := Ap.gt n190
    clear n190
    have n200 : @LT.lt Nat _ al (I + 1) := by omega
    have n201 : Ap al (I + 1) := Ap.lt n200
    have n202 : Ap (I + 1) al := Ap.gt n200
    clear n200
    have n210 : @LT.lt Nat _ I (I + 1) := by omega
    have n211 : Ap I (I + 1) := Ap.lt n210
    have n212 : Ap (I + 1) I := Ap.gt n210
    clear n210
    clear k1
    repeat (revert ‹_›; fail_if_success (refine fun (_ : Marker) => ?_))
    exact hP.out
end
section
local macro_rules | `(tactic| walk_at "none") => `(tactic| skip)
local macro_rules | `(tactic| walk_at "eval Name") => `(tactic| (k_here; k_dflt (refine' nm_L ?F ?hx ?hk ?hd ?hv ?_; (case F => k_asm); (case hx => kernel_rfl!); (case hk => exact rfl); (case hd => kernel_rfl!); (case hv => ((try dsimp only); (repeat (first | with_reducible exact lk_hit | with_reducible exact lki_hit | (with_reducible refine' Eq.trans (lk_skip ?n) ?_; (case n => kernel_rfl!)) | (with_reducible refine' Eq.trans (lki_skip ?n) ?_; (case n => kernel_rfl!)) | with_reducible assumption)))); k_whole)))
local macro_rules | `(tactic| k_mem) => `(tactic| ((repeat (first | with_reducible assumption | with_reducible exact List.mem_cons_self | with_reducible refine List.mem_cons_of_mem _ ?_)); done))
local macro_rules | `(tactic| walk_at "subscriptTail") => `(tactic| (k_here; (with_reducible show wpAny _ _ (subscriptTail _ _ (Value.ref _) (Value.int _ _)) _ _ _); k_dflt (refine' item_at ?N ?hm ?h0 ?h1 ?hx ?_ ?hs; (case N => k_asm); (case hm => k_mem); (case h0 => decide); (case h1 => decide); (case hx => with_reducible first | exact it0 | exact it1 | exact it2 | exact it3 | exact it4 | exact it5); (case hs => with_unfolding_all rfl); k_whole)))
local macro_rules | `(tactic| walk_at "call ref") => `(tactic| (k_here; (with_reducible show wpAny _ _ (call (Value.ref 542) _) _ _ _); k_dflt (refine' use_ctr (c_next ?k1 ?k2 ?k3 ?k4 ?k5 ?kK ?mr ?ml ?hI ?hlen ?ht ?ht2 ?hk0 ?hk1 ?hr ?_) ?e ?d ?u; (case e => exact rfl); (case d => exact Nat.le_of_ble_eq_true rfl); (case u => exact Nat.le_of_ble_eq_true rfl); (case k1 => k_asm); (case k2 => k_asm); (case k3 => k_asm); (case k4 => k_asm); (case k5 => k_asm); (case kK => first | exact rfl | assumption); (case mr => k_mem); (case ml => k_mem); (case hI => assumption); (case hlen => assumption); (case ht => omega); (case ht2 => omega); (case hk0 => decide); (case hk1 => decide); (case hr => omega); k_whole; intro v' t1' t2' h' tk' v0' v1' F' hN'; (have N' := hN' _ (by k_upd)); clear hN'; (try k_sweep); (try dsimp only))))
local macro_rules | `(tactic| walk_at "call ref") => `(tactic| (k_here; (with_reducible show wpAny _ _ (call (Value.ref 549) _) _ _ _); refine halt ?_))
local macro_rules | `(tactic| walk_at "call ref") => `(tactic| (k_here; (with_reducible show wpAny _ _ (call (Value.ref 556) _) _ _ _); k_dflt (refine' use_ctr (c_asked ?k1 ?k2 ?k3 ?k4 ?k5 ?kK ?g1 ?g2 ?mm ?lv ?lw ?mu ?md ?mv ?me ?vl ?al ?ht ?e0 ?i0 ?e1 ?i1 ?e2 ?i2 ?e3 ?i3 ?i4 ?i5 ?MI ?hl ?_) ?e ?d ?u; (case e => exact rfl); (case d => exact Nat.le_of_ble_eq_true rfl); (case u => exact Nat.le_of_ble_eq_true rfl); (case k1 => k_asm); (case k2 => k_asm); (case k3 => k_asm); (case k4 => k_asm); (case k5 => k_asm); (case kK => first | exact rfl | assumption); (case vl => k_mem); (case al => k_mem); (case g1 => k_mem); (case g2 => k_mem); (case mm => k_mem); (case lv => k_mem); (case lw => k_mem); (case mu => k_mem); (case md => k_mem); (case mv => k_mem); (case me => k_mem); (case MI => with_reducible assumption); (case i0 => with_reducible assumption); (case i1 => with_reducible assumption); (case i2 => with_reducible assumption); (case i3 => with_reducible assumption); (case i4 => with_reducible assumption); (case i5 => with_reducible assumption); (case e0 => first | with_reducible assumption | exact rfl); (case e1 => first | with_reducible assumption | exact rfl); (case e2 => first | with_reducible assumption | exact rfl); (case e3 => first | with_reducible assumption | exact rfl); (case hl => with_reducible assumption); (case ht => repeat (first | with_reducible assumption | with_reducible exact fun _ h => h | with_reducible refine sub_cons ?_)); k_whole; intro h' tk' F' N'; (try k_sweep); (try dsimp only))))
local macro_rules | `(tactic| walk_at "call ref") => `(tactic| (k_here; (with_reducible show wpAny _ _ (call (Value.ref 507) _) _ _ _); k_dflt (refine' use_ctr (SetOK.use ?ok ?ht ?k1 ?k2 ?k3 ?k4 ?k5 ?kK ?mm ?hm ?MI ?hn ?_) ?e ?d ?u; (case e => exact rfl); (case d => exact Nat.le_of_ble_eq_true rfl); (case u => exact Nat.le_of_ble_eq_true rfl); (case k1 => k_asm); (case k2 => k_asm); (case k3 => k_asm); (case k4 => k_asm); (case k5 => k_asm); (case kK => first | exact rfl | assumption); (case ok => with_reducible assumption); (case ht => repeat (first | with_reducible assumption | with_reducible exact fun _ h => h | with_reducible refine sub_cons ?_)); (case mm => k_mem); (case hm => exact MetaIn.none_or (by with_reducible assumption)); (case MI => with_reducible assumption); (case hn => omega); k_whole; intro o' h' tk' M' F' hN'; (have N' := hN' _ (by k_upd)); clear hN'; (try k_sweep); (try dsimp only))))
local macro_rules | `(tactic| walk_at "setItem ref int") => `(tactic| (k_here; k_dflt (refine' ans_set ?F ?N ?U ?a ?b ?_; (case F => k_asm); (case N => k_asm); (case U => k_upd); (case a => omega); (case b => omega)); intro h' F' N'; (try dsimp only at N')))
local macro_rules | `(tactic| walk_at "subscriptTail") => `(tactic| (k_here; (with_reducible show wpAny _ _ (subscriptTail _ _ (Value.ref _) (Value.int _ _)) _ _ _); k_dflt (refine' item_at ?N ?hm ?h0 ?h1 ?hx ?_ ?hs; (case N => k_asm); (case hm => k_mem); (case h0 => with_reducible assumption); (case h1 => omega); (case hx => with_reducible assumption); (case hs => with_unfolding_all rfl); k_whole)))
theorem loop_holds : loopGoal.val := by
  conv => whnf
  k_fill
  unhygienic intros
  refine Halt.mk ?_
  refine kind_turns (J := (LJ w gl gd lim out lv lvd uv ud uw ue vl al Ma r l I ?g0 ?g1 ?g2 ?g3 ?g4 ?g5 ?g6 ?g7 ?g8 ?g9 ?w8 ?w9 ?tv ?x0 ?x1 ?nv ?n2 ws ?y0 ?y1 ?y2 ?y3 ?y4 ?y5 ?y6 ?zz0 ?zz1 ?zz2 ?zz3 ?a0 ?a1 ?a2 ?a3 ?a4 ?a5 ?a6 ?b0 ?b1 ?b2 ?b3 ?ub ?uc ?nr)) (vals := valN ?tv lv) ?gen (items_step (Jout := (LJ w gl gd lim out lv lvd uv ud uw ue vl al Ma r l I ?g0 ?g1 ?g2 ?g3 ?g4 ?g5 ?g6 ?g7 ?g8 ?g9 ?w8 ?w9 ?tv ?x0 ?x1 ?nv ?n2 ws ?y0 ?y1 ?y2 ?y3 ?y4 ?y5 ?y6 ?zz0 ?zz1 ?zz2 ?zz3 ?a0 ?a1 ?a2 ?a3 ?a4 ?a5 ?a6 ?b0 ?b1 ?b2 ?b3 ?ub ?uc ?nr 5)) ?t4 (items_step (Jout := (LJ w gl gd lim out lv lvd uv ud uw ue vl al Ma r l I ?g0 ?g1 ?g2 ?g3 ?g4 ?g5 ?g6 ?g7 ?g8 ?g9 ?w8 ?w9 ?tv ?x0 ?x1 ?nv ?n2 ws ?y0 ?y1 ?y2 ?y3 ?y4 ?y5 ?y6 ?zz0 ?zz1 ?zz2 ?zz3 ?a0 ?a1 ?a2 ?a3 ?a4 ?a5 ?a6 ?b0 ?b1 ?b2 ?b3 ?ub ?uc ?nr 6)) ?t5 (items_end ?hz))) _ _ ?j0
  case j0 =>
    refine ⟨fun _ => .none, fun _ => .none, [(vl, ?z1), (uw, instObj 185 ue), (uv, instObj 185 ud), (lv, instObj 115 lvd), (lvd, ?z2), (gl, instObj 211 gd), (gd, ?z3), (l, ?z4)], mo, 0, ?ztk, ?zna, ?sub, ?ls, ⟨[], hi, Nat.le_refl _, ?mi⟩, by decide, by decide, ?e1, ?e2, ?e3, ?e4⟩
    case sub =>
      dsimp only [List.range, List.range.loop, List.map]
      repeat (first | exact List.forall_mem_nil _ | refine List.forall_mem_cons.mpr ⟨by k_mem, ?_⟩)
    case ls =>
      have ap : ∀ {a : Addr} {l' : List (Addr × Obj)}, AllNe a l' → ∀ p ∈ l', p.1 ≠ a := fun h p hp => ne_of_all h p hp
      refine ⟨by k_mem, by k_mem, by k_mem, by k_mem, by k_mem, by k_mem, by k_mem, by k_mem, fun _ => .none, ap ?ap1, ap ?ap2, ap ?ap3, ap ?ap4, ap ?ap5, ap ?ap6, ap ?ap7⟩
      all_goals (simp only [AllNe, and_true]; omega)
    case mi => intro k; unfold fqN fq; simp [valueAt]
    case e1 => kernel_rfl!
    case e2 => kernel_rfl!
    case e3 => kernel_rfl!
    case e4 => kernel_rfl!
  case gen =>
    intro i hi4
    rintro m' news' ⟨q, r', TT, o, t, tk, na, hsub, S, MI, ht0, ht1, hm1, hm2, hm3, hm4⟩ v' h' tk' hv' F'
    obtain ⟨T', t', rfl, hT'⟩ := hv'
    refine AllObj.cons fun o1 hc1 => AllObj.cons fun o2 hc2 => AllObj.nil fun N' => ?_
    have F1 : Fr _ sA.heap.objs.size h' m' := F'
    obtain ⟨rs, hrs⟩ : ∃ rs : List Value, rs = (List.range i).map r' := ⟨_, rfl⟩
    have hrl : rs.length ≤ 5 := by rw [hrs, List.length_map, List.length_range]; omega
    have N1 : News _ sA.heap.objs.size h' ((I + 1, o1) :: (I, o2) :: (al, listOf rs.toArray na) :: (ue, _) :: (ud, _) :: (Ma, o) :: (r, _) :: TT) := News.re N' (its_re (by rw [hrs]; exact hsub))
    clear N' F' hsub
    obtain ⟨mg1, mg2, mlv, mlv2, mu, mu', mvl, ml, fmi, n1, n2', n3, n4, n5, n6, n7⟩ := id S
    clear fmi
    dsimp only at hT'
    obtain ⟨vv, hvv⟩ : ∃ vv, vv = valN ?tv lv i := ⟨_, rfl⟩
    obtain ⟨kx, hkx⟩ : ∃ kx : Int, kx = (i : Int) := ⟨_, rfl⟩
    rw [← hvv, ← hkx] at hT'
    have hk0 : 0 ≤ kx := by omega
    have hk4 : kx < 4 := by omega
    k_steps
    refine Halt.mk ?_
    w_strict (refine' use_ctr (c_meta ?k1gen ?k2gen ?k3gen ?k4gen ?k5gen ?kKgen ?mrgen ?mlgen ?hIgen ?hlengen ?htgen ?ht2gen ?hrgen ?_) ?egen ?dgen ?ugen; (case egen => exact rfl); (case dgen => exact Nat.le_of_ble_eq_true rfl); (case ugen => exact Nat.le_of_ble_eq_true rfl); (case k1gen => k_asm); (case k2gen => k_asm); (case k3gen => k_asm); (case k4gen => k_asm); (case k5gen => k_asm); (case kKgen => first | exact rfl | assumption); (case mrgen => k_mem); (case mlgen => k_mem); (case hIgen => assumption); (case hlengen => assumption); (case htgen => omega); (case ht2gen => omega); (case hrgen => omega); k_whole)
    intro qq mv an tabs t1 h2 tk2 nq nt mi F2 hN
    have N2 := News.re (hN _ (by k_upd)) (shift7' (T := (qq, tupOf #[mv, an]) :: tabs))
    have mi2 : MetaIn w ((qq, tupOf #[mv, an]) :: tabs) mv an := mi.mono fun _ h => List.mem_cons_of_mem _ h
    have S2 := LS.grow (tabs := (qq, tupOf #[mv, an]) :: tabs) S (List.forall_mem_cons.mpr ⟨nq, nt⟩) (by k_mem) (by k_mem) (by k_mem) (by k_mem) (by k_mem) (by k_mem) (by k_mem)
    have mi3 : MetaIn w (((qq, tupOf #[mv, an]) :: tabs) ++ TT) mv an := mi2.mono fun _ h => List.mem_append_left _ h
    have hq : IsTup h2 qq #[mv, an] := News.isTup N2 (by k_mem)
    clear hN nq nt mi mi2 mg1 mg2 mlv mlv2 mu mu' mvl ml n1 n2' n3 n4 n5 n6 n7 S
    generalize ((qq, tupOf #[mv, an]) :: tabs) ++ TT = TT2 at N2 S2 mi3
    obtain ⟨mg1, mg2, mlv, mlv2, mu, mu', mvl, ml, fmi, n1, n2', n3, n4, n5, n6, n7⟩ := id S2
    clear fmi
    have hok : SetOK w gl Ma vv i TT2 := by rw [hvv]; exact S2.five.setN hlo hi4
    (try k_sweep); (try dsimp only)
    k_steps
    refine' turn_endJ ?fFgen ?fNgen ?f6gen ?f7gen ?fkgen ?fjgen
    case fFgen => k_asm
    case fNgen => k_asm
    case f6gen => k_all
    case f7gen => k_all
    case fkgen => exact ⟨by k_mem, trivial⟩
    case fjgen => exact ⟨updN q i mv, updN r' i an, TT2, _, t + 1, _, _, (by rw [range_upd, ← hrs, ← List.push_toArray, updN_ne (f := q) (k := 5) (by omega), updN_ne (f := q) (k := 4) (by omega)]; exact fun p hp => hp), S2.put i mi3, (by with_reducible assumption), by omega, by omega, (by (try dsimp only); (repeat (first | with_reducible exact lki_hit | (with_reducible refine' Eq.trans (lki_skip ?n) ?_; (case n => kernel_rfl!)) | with_reducible assumption))), (by (try dsimp only); (repeat (first | with_reducible exact lki_hit | (with_reducible refine' Eq.trans (lki_skip ?n) ?_; (case n => kernel_rfl!)) | with_reducible assumption))), (by (try dsimp only); (repeat (first | with_reducible exact lki_hit | (with_reducible refine' Eq.trans (lki_skip ?n) ?_; (case n => kernel_rfl!)) | with_reducible assumption))), (by (try dsimp only); (repeat (first | with_reducible exact lki_hit | (with_reducible refine' Eq.trans (lki_skip ?n) ?_; (case n => kernel_rfl!)) | with_reducible assumption)))⟩
  case t4 =>
    rintro m' news' ⟨q, r', TT, o, t, tk, na, hsub, S, MI, ht0, ht1, hm1, hm2, hm3, hm4⟩ v' h' tk' hv' F'
    obtain ⟨T', t', rfl, hT'⟩ := hv'
    refine AllObj.cons fun o1 hc1 => AllObj.cons fun o2 hc2 => AllObj.nil fun N' => ?_
    have F1 : Fr _ sA.heap.objs.size h' m' := F'
    obtain ⟨rs, hrs⟩ : ∃ rs : List Value, rs = (List.range 4).map r' := ⟨_, rfl⟩
    have hrl : rs.length ≤ 5 := by rw [hrs, List.length_map, List.length_range]; omega
    have N1 : News _ sA.heap.objs.size h' ((I + 1, o1) :: (I, o2) :: (al, listOf rs.toArray na) :: (ue, _) :: (ud, _) :: (Ma, o) :: (r, _) :: TT) := News.re N' (its_re (by rw [hrs]; exact hsub))
    clear N' F' hsub
    obtain ⟨mg1, mg2, mlv, mlv2, mu, mu', mvl, ml, fmi, n1, n2', n3, n4, n5, n6, n7⟩ := id S
    clear fmi
    dsimp only at hT'
    k_steps
    refine Halt.mk ?_
    w_strict (refine' use_ctr (c_meta ?k1t4 ?k2t4 ?k3t4 ?k4t4 ?k5t4 ?kKt4 ?mrt4 ?mlt4 ?hIt4 ?hlent4 ?htt4 ?ht2t4 ?hrt4 ?_) ?et4 ?dt4 ?ut4; (case et4 => exact rfl); (case dt4 => exact Nat.le_of_ble_eq_true rfl); (case ut4 => exact Nat.le_of_ble_eq_true rfl); (case k1t4 => k_asm); (case k2t4 => k_asm); (case k3t4 => k_asm); (case k4t4 => k_asm); (case k5t4 => k_asm); (case kKt4 => first | exact rfl | assumption); (case mrt4 => k_mem); (case mlt4 => k_mem); (case hIt4 => assumption); (case hlent4 => assumption); (case htt4 => omega); (case ht2t4 => omega); (case hrt4 => omega); k_whole)
    intro qq mv an tabs t1 h2 tk2 nq nt mi F2 hN
    have N2 := News.re (hN _ (by k_upd)) (shift7' (T := (qq, tupOf #[mv, an]) :: tabs))
    have mi2 : MetaIn w ((qq, tupOf #[mv, an]) :: tabs) mv an := mi.mono fun _ h => List.mem_cons_of_mem _ h
    have S2 := LS.grow (tabs := (qq, tupOf #[mv, an]) :: tabs) S (List.forall_mem_cons.mpr ⟨nq, nt⟩) (by k_mem) (by k_mem) (by k_mem) (by k_mem) (by k_mem) (by k_mem) (by k_mem)
    have mi3 : MetaIn w (((qq, tupOf #[mv, an]) :: tabs) ++ TT) mv an := mi2.mono fun _ h => List.mem_append_left _ h
    have hq : IsTup h2 qq #[mv, an] := News.isTup N2 (by k_mem)
    clear hN nq nt mi mi2 mg1 mg2 mlv mlv2 mu mu' mvl ml n1 n2' n3 n4 n5 n6 n7 S
    generalize ((qq, tupOf #[mv, an]) :: tabs) ++ TT = TT2 at N2 S2 mi3
    obtain ⟨mg1, mg2, mlv, mlv2, mu, mu', mvl, ml, fmi, n1, n2', n3, n4, n5, n6, n7⟩ := id S2
    clear fmi
    (try k_sweep); (try dsimp only)
    k_steps
    refine' turn_endJ ?fFt4 ?fNt4 ?f6t4 ?f7t4 ?fkt4 ?fjt4
    case fFt4 => k_asm
    case fNt4 => k_asm
    case f6t4 => k_all
    case f7t4 => k_all
    case fkt4 => exact ⟨by k_mem, trivial⟩
    case fjt4 => exact ⟨updN q 4 mv, updN r' 4 an, TT2, _, t + 1, _, _, (by rw [range_upd, ← hrs, ← List.push_toArray, updN_ne (f := q) (k := 5) (by omega)]; exact fun p hp => hp), S2.put 4 mi3, (MI.more.eq (fqN_far (by decide)).symm), by omega, by omega, (by (try dsimp only); (repeat (first | with_reducible exact lki_hit | (with_reducible refine' Eq.trans (lki_skip ?n) ?_; (case n => kernel_rfl!)) | with_reducible assumption))), (by (try dsimp only); (repeat (first | with_reducible exact lki_hit | (with_reducible refine' Eq.trans (lki_skip ?n) ?_; (case n => kernel_rfl!)) | with_reducible assumption))), (by (try dsimp only); (repeat (first | with_reducible exact lki_hit | (with_reducible refine' Eq.trans (lki_skip ?n) ?_; (case n => kernel_rfl!)) | with_reducible assumption))), (by (try dsimp only); (repeat (first | with_reducible exact lki_hit | (with_reducible refine' Eq.trans (lki_skip ?n) ?_; (case n => kernel_rfl!)) | with_reducible assumption)))⟩
  case t5 =>
    rintro m' news' ⟨q, r', TT, o, t, tk, na, hsub, S, MI, ht0, ht1, hm1, hm2, hm3, hm4⟩ v' h' tk' hv' F'
    obtain ⟨T', t', rfl, hT'⟩ := hv'
    refine AllObj.cons fun o1 hc1 => AllObj.cons fun o2 hc2 => AllObj.nil fun N' => ?_
    have F1 : Fr _ sA.heap.objs.size h' m' := F'
    obtain ⟨rs, hrs⟩ : ∃ rs : List Value, rs = (List.range 5).map r' := ⟨_, rfl⟩
    have hrl : rs.length ≤ 5 := by rw [hrs, List.length_map, List.length_range]; omega
    have N1 : News _ sA.heap.objs.size h' ((I + 1, o1) :: (I, o2) :: (al, listOf rs.toArray na) :: (ue, _) :: (ud, _) :: (Ma, o) :: (r, _) :: TT) := News.re N' (its_re (by rw [hrs]; exact hsub))
    clear N' F' hsub
    obtain ⟨mg1, mg2, mlv, mlv2, mu, mu', mvl, ml, fmi, n1, n2', n3, n4, n5, n6, n7⟩ := id S
    clear fmi
    dsimp only at hT'
    k_steps
    refine Halt.mk ?_
    w_strict (refine' use_ctr (c_meta ?k1t5 ?k2t5 ?k3t5 ?k4t5 ?k5t5 ?kKt5 ?mrt5 ?mlt5 ?hIt5 ?hlent5 ?htt5 ?ht2t5 ?hrt5 ?_) ?et5 ?dt5 ?ut5; (case et5 => exact rfl); (case dt5 => exact Nat.le_of_ble_eq_true rfl); (case ut5 => exact Nat.le_of_ble_eq_true rfl); (case k1t5 => k_asm); (case k2t5 => k_asm); (case k3t5 => k_asm); (case k4t5 => k_asm); (case k5t5 => k_asm); (case kKt5 => first | exact rfl | assumption); (case mrt5 => k_mem); (case mlt5 => k_mem); (case hIt5 => assumption); (case hlent5 => assumption); (case htt5 => omega); (case ht2t5 => omega); (case hrt5 => omega); k_whole)
    intro qq mv an tabs t1 h2 tk2 nq nt mi F2 hN
    have N2 := News.re (hN _ (by k_upd)) (shift7' (T := (qq, tupOf #[mv, an]) :: tabs))
    have mi2 : MetaIn w ((qq, tupOf #[mv, an]) :: tabs) mv an := mi.mono fun _ h => List.mem_cons_of_mem _ h
    have S2 := LS.grow (tabs := (qq, tupOf #[mv, an]) :: tabs) S (List.forall_mem_cons.mpr ⟨nq, nt⟩) (by k_mem) (by k_mem) (by k_mem) (by k_mem) (by k_mem) (by k_mem) (by k_mem)
    have mi3 : MetaIn w (((qq, tupOf #[mv, an]) :: tabs) ++ TT) mv an := mi2.mono fun _ h => List.mem_append_left _ h
    have hq : IsTup h2 qq #[mv, an] := News.isTup N2 (by k_mem)
    clear hN nq nt mi mi2 mg1 mg2 mlv mlv2 mu mu' mvl ml n1 n2' n3 n4 n5 n6 n7 S
    generalize ((qq, tupOf #[mv, an]) :: tabs) ++ TT = TT2 at N2 S2 mi3
    obtain ⟨mg1, mg2, mlv, mlv2, mu, mu', mvl, ml, fmi, n1, n2', n3, n4, n5, n6, n7⟩ := id S2
    clear fmi
    (try k_sweep); (try dsimp only)
    k_steps
    refine' turn_endJ ?fFt5 ?fNt5 ?f6t5 ?f7t5 ?fkt5 ?fjt5
    case fFt5 => k_asm
    case fNt5 => k_asm
    case f6t5 => k_all
    case f7t5 => k_all
    case fkt5 => exact ⟨by k_mem, trivial⟩
    case fjt5 => exact ⟨updN q 5 mv, updN r' 5 an, TT2, _, t + 1, _, _, (by rw [range_upd, ← hrs, ← List.push_toArray, updN_ne (f := q) (k := 4) (by omega)]; exact fun p hp => hp), S2.put 5 mi3, (MI.more.eq (fqN_far (by decide)).symm), by omega, by omega, (by (try dsimp only); (repeat (first | with_reducible exact lki_hit | (with_reducible refine' Eq.trans (lki_skip ?n) ?_; (case n => kernel_rfl!)) | with_reducible assumption))), (by (try dsimp only); (repeat (first | with_reducible exact lki_hit | (with_reducible refine' Eq.trans (lki_skip ?n) ?_; (case n => kernel_rfl!)) | with_reducible assumption))), (by (try dsimp only); (repeat (first | with_reducible exact lki_hit | (with_reducible refine' Eq.trans (lki_skip ?n) ?_; (case n => kernel_rfl!)) | with_reducible assumption))), (by (try dsimp only); (repeat (first | with_reducible exact lki_hit | (with_reducible refine' Eq.trans (lki_skip ?n) ?_; (case n => kernel_rfl!)) | with_reducible assumption)))⟩
  case hz =>
    rintro m' news' ⟨q, r', TT, o, t, tk, na, hsub, S0, MI, ht0, ht1, hm1, hm2, hm3, hm4⟩ h' tk' F' N'
    have F1 : Fr _ sA.heap.objs.size h' m' := F'
    have N1 : News _ sA.heap.objs.size h' ((al, listOf #[r' 0, r' 1, r' 2, r' 3, r' 4, r' 5] na) :: (ue, _) :: (ud, _) :: (Ma, o) :: (r, _) :: TT) := News.re N' hsub
    have S := S0.five
    clear N' F' hsub S0
    obtain ⟨mg1, mg2, mlv, mlv2, mu, mu', mvl, ml, fmi, n1, n2', n3, n4, n5⟩ := id S
    have i0 := fmi 0
    have i1 := fmi 1
    have i2 := fmi 2
    have i3 := fmi 3
    have i4 := fmi 4
    have i5 := fmi 5
    clear fmi
    dsimp only
    k_steps
    refine Halt.mk ?_
    w_strict (refine' use_ctr (c_meta ?k1z ?k2z ?k3z ?k4z ?k5z ?kKz ?mrz ?mlz ?hIz ?hlenz ?htz ?ht2z ?hrz ?_) ?ez ?dz ?uz; (case ez => exact rfl); (case dz => exact Nat.le_of_ble_eq_true rfl); (case uz => exact Nat.le_of_ble_eq_true rfl); (case k1z => k_asm); (case k2z => k_asm); (case k3z => k_asm); (case k4z => k_asm); (case k5z => k_asm); (case kKz => first | exact rfl | assumption); (case mrz => k_mem); (case mlz => k_mem); (case hIz => assumption); (case hlenz => assumption); (case htz => omega); (case ht2z => omega); (case hrz => omega); k_whole)
    intro qq mv an tabs t1 h2 tk2 nq nt mi F2 hN
    have N2 := News.re (hN _ (by k_upd)) (shift5' (T := (qq, tupOf #[mv, an]) :: tabs))
    have mi2 : MetaIn w ((qq, tupOf #[mv, an]) :: tabs) mv an := mi.mono fun _ h => List.mem_cons_of_mem _ h
    have S2 := LS5.grow (tabs := (qq, tupOf #[mv, an]) :: tabs) S (List.forall_mem_cons.mpr ⟨nq, nt⟩) (by k_mem) (by k_mem) (by k_mem) (by k_mem) (by k_mem)
    have mi3 : MetaIn w (((qq, tupOf #[mv, an]) :: tabs) ++ TT) mv an := mi2.mono fun _ h => List.mem_append_left _ h
    have hq : IsTup h2 qq #[mv, an] := News.isTup N2 (by k_mem)
    clear hN nq nt mi mi2 mg1 mg2 mlv mlv2 mu mu' mvl ml i0 i1 i2 i3 i4 i5 n1 n2' n3 n4 n5 S
    generalize ((qq, tupOf #[mv, an]) :: tabs) ++ TT = TT2 at N2 S2 mi3
    rename _ < (4 : Int) => hk4
    obtain ⟨vv, hvx, hok⟩ := S2.pick hlo (by with_reducible assumption) hk4
    obtain ⟨S3, i4, i5⟩ := S2.putk hok hk4 mi3
    obtain ⟨mg1, mg2, mlv, mlv2, mu, mu', mvl, ml, fmi, n1, n2', n3, n4, n5⟩ := id S3
    have i0 := fmi 0
    have i1 := fmi 1
    have i2 := fmi 2
    have i3 := fmi 3
    clear fmi
    (try k_sweep); (try dsimp only)
    k_steps
theorem law_walks : PySem.Challenge.rw_rh0165_01.Holds := loopGoal.property loop_holds
end
end
end Mine
theorem PySem.Challenge.cw_rh0165_01_holds : PySem.Challenge.rw_rh0165_01.Holds := by
  exact Mine.law_walks
