import PyProof.Rows.All
import Wide.All
import OpenK.AllK
import Wide.FinOn
import PySem.Challenge.RW_nz0214_01
set_option Elab.async false
open PySem PySem.W PySem.Calls PyProof.Rows PySem.Spec

namespace Mine
set_option maxRecDepth 100000
set_option maxHeartbeats 8000000

-- The head: the top run once, over a tree of objects; its end written out, the states between not.
noncomputable def topRunT (tb : String → Option Builtin) (p : Program) (w : World) (n₀ : Nat) (ann : Option Value) : Nat → SharedT → Thread → Option SharedT
  | 0, _, _ => none
  | n + 1, s, t => match through t with
    | true => some s
    | false => match stepOk n₀ ann t with
      | false => none
      | true => match stepT (denote tb) p w s t with
        | some (s', t') => topRunT tb p w n₀ ann n s' t'
        | none => none
noncomputable def putAll : List Obj → Nat → BT → BT
  | [], _, t => t
  | o :: r, n, t => putAll r (n + 1) (t.ins n o)
noncomputable def bootT (P : Params) : BT := putAll (boot_heap P).objs.toList 0 .nil
theorem bootT_abs (P : Params) : absHeap (bootT P) 11 (boot_heap P).life = boot_heap P := by kernel_rfl
theorem ann_is (P : Params) : (boot_heap P).nsMap mainGlobals "__annotations__" = some (.ref 6) := by kernel_rfl
theorem topRunT_spec {tb : String → Option Builtin} {p : Program} {w : World} {n₀ : Nat} {ann : Option Value} : ∀ {n : Nat} {s s' : SharedT} {t : Thread}, topRunT tb p w n₀ ann n s t = some s' → topRun tb p w n₀ ann n s.abs t = some s'.abs
  | 0, _, _, _, h => by cases h
  | n + 1, s, s', t, h => by
    unfold topRunT at h
    unfold topRun
    cases ht : through t with
    | true => rw [ht] at h; cases h; rfl
    | false =>
      rw [ht] at h
      cases hk : stepOk n₀ ann t with
      | false => rw [hk] at h; cases h
      | true =>
        rw [hk] at h
        cases hs : stepT (denote tb) p w s t with
        | none => rw [hs] at h; cases h
        | some r => obtain ⟨s₂, t₂⟩ := r; rw [hs] at h; rw [stepT_spec hs]; exact topRunT_spec h
-- the same, by the library's quick twins
noncomputable def topRunQ (tb : String → Option Builtin) (p : Program) (w : World) (n₀ : Nat) (ann : Option Value) : Nat → SharedT → Thread → Option SharedT
  | 0, _, _ => none
  | n + 1, s, t => match through t with
    | true => some s
    | false => match PySem.W.Fast.tw6613529449190102663 n₀ ann t with
      | false => none
      | true => match PySem.W.Fast.tw10156331382660048174 (PySem.W.Fast.tw11892475500146522536 tb) p w s t with
        | some (s', t') => topRunQ tb p w n₀ ann n s' t'
        | none => none
theorem topRunQ_eq {tb : String → Option Builtin} {p : Program} {w : World} {n₀ : Nat} {ann : Option Value} : ∀ (n : Nat) (s : SharedT) (t : Thread), topRunT tb p w n₀ ann n s t = topRunQ tb p w n₀ ann n s t
  | 0, _, _ => rfl
  | n + 1, s, t => by
    unfold topRunT topRunQ
    rw [← PySem.W.Fast.te6613529449190102663, ← PySem.W.Fast.te10156331382660048174, ← PySem.W.Fast.te11892475500146522536]
    cases through t with
    | true => rfl
    | false =>
      cases stepOk n₀ ann t with
      | false => rfl
      | true =>
        dsimp only
        cases stepT (denote tb) p w s t with
        | none => rfl
        | some r => exact topRunQ_eq n r.1 r.2
-- what the law's call can reach of the heap behind the top (names, addresses, tokens); the code's own parts are taken from the row by place
noncomputable def stmtFn : Stmt → Option (Arguments × List Stmt × Scope)
  | .FunctionDef _ a b _ _ _ s _ _ _ => some (a, b, s)
  | _ => none
noncomputable def stmtBody : Stmt → List Stmt
  | .ClassDef _ _ _ b _ _ _ _ _ _ _ => b
  | _ => []
noncomputable def topFn (i : Nat) : Option (Arguments × List Stmt × Scope) := (PySem.Challenge.pw_nz0214_01.main.body[i]?).bind stmtFn
noncomputable def clsFn (i j : Nat) : Option (Arguments × List Stmt × Scope) := (PySem.Challenge.pw_nz0214_01.main.body[i]?).bind fun s => ((stmtBody s)[j]?).bind stmtFn
noncomputable def K : Params → Frag :=
  (fun
    (pa29 : Arguments) (bo29 : List Stmt) (sc29 : Scope)
    (pa61 : Arguments) (bo61 : List Stmt) (sc61 : Scope)
    (pa80 : Arguments) (bo80 : List Stmt) (sc80 : Scope)
    (pa101 : Arguments) (bo101 : List Stmt) (sc101 : Scope)
    (pa122 : Arguments) (bo122 : List Stmt) (sc122 : Scope)
    (pa143 : Arguments) (bo143 : List Stmt) (sc143 : Scope)
    (pa164 : Arguments) (bo164 : List Stmt) (sc164 : Scope)
    (pa171 : Arguments) (bo171 : List Stmt) (sc171 : Scope)
    (pa178 : Arguments) (bo178 : List Stmt) (sc178 : Scope)
    (pa185 : Arguments) (bo185 : List Stmt) (sc185 : Scope)
    (pa192 : Arguments) (bo192 : List Stmt) (sc192 : Scope)
    (pa199 : Arguments) (bo199 : List Stmt) (sc199 : Scope)
    (pa206 : Arguments) (bo206 : List Stmt) (sc206 : Scope)
    (pa220 : Arguments) (bo220 : List Stmt) (sc220 : Scope)
    (pa227 : Arguments) (bo227 : List Stmt) (sc227 : Scope)
    (pa234 : Arguments) (bo234 : List Stmt) (sc234 : Scope)
    (pa241 : Arguments) (bo241 : List Stmt) (sc241 : Scope)
    (pa248 : Arguments) (bo248 : List Stmt) (sc248 : Scope)
    (pa255 : Arguments) (bo255 : List Stmt) (sc255 : Scope)
    (pa262 : Arguments) (bo262 : List Stmt) (sc262 : Scope)
    (pa269 : Arguments) (bo269 : List Stmt) (sc269 : Scope)
    (pa276 : Arguments) (bo276 : List Stmt) (sc276 : Scope)
    (pa283 : Arguments) (bo283 : List Stmt) (sc283 : Scope)
    (pa290 : Arguments) (bo290 : List Stmt) (sc290 : Scope)
    (pa297 : Arguments) (bo297 : List Stmt) (sc297 : Scope)
    (pa302 : Arguments) (bo302 : List Stmt) (sc302 : Scope)
    (pa309 : Arguments) (bo309 : List Stmt) (sc309 : Scope)
    (pa316 : Arguments) (bo316 : List Stmt) (sc316 : Scope)
    (pa323 : Arguments) (bo323 : List Stmt) (sc323 : Scope)
    (_ : clsFn 1 0 = some (pa29, bo29, sc29))
    (_ : clsFn 3 0 = some (pa61, bo61, sc61))
    (_ : clsFn 15 0 = some (pa80, bo80, sc80))
    (_ : clsFn 16 0 = some (pa101, bo101, sc101))
    (_ : clsFn 17 0 = some (pa122, bo122, sc122))
    (_ : clsFn 18 0 = some (pa143, bo143, sc143))
    (_ : clsFn 19 0 = some (pa164, bo164, sc164))
    (_ : clsFn 19 1 = some (pa171, bo171, sc171))
    (_ : clsFn 19 2 = some (pa178, bo178, sc178))
    (_ : clsFn 19 3 = some (pa185, bo185, sc185))
    (_ : clsFn 19 4 = some (pa192, bo192, sc192))
    (_ : clsFn 19 5 = some (pa199, bo199, sc199))
    (_ : clsFn 19 6 = some (pa206, bo206, sc206))
    (_ : topFn 20 = some (pa220, bo220, sc220))
    (_ : topFn 21 = some (pa227, bo227, sc227))
    (_ : topFn 22 = some (pa234, bo234, sc234))
    (_ : topFn 23 = some (pa241, bo241, sc241))
    (_ : topFn 24 = some (pa248, bo248, sc248))
    (_ : topFn 25 = some (pa255, bo255, sc255))
    (_ : topFn 26 = some (pa262, bo262, sc262))
    (_ : topFn 27 = some (pa269, bo269, sc269))
    (_ : topFn 28 = some (pa276, bo276, sc276))
    (_ : topFn 29 = some (pa283, bo283, sc283))
    (_ : topFn 31 = some (pa290, bo290, sc290))
    (_ : topFn 32 = some (pa297, bo297, sc297))
    (_ : topFn 33 = some (pa302, bo302, sc302))
    (_ : topFn 34 = some (pa309, bo309, sc309))
    (_ : topFn 35 = some (pa316, bo316, sc316))
    (_ : topFn 36 = some (pa323, bo323, sc323))
    => fun P =>
      ((nat_lit 2, { cls := Value.none, data := Data.dict #[] }) ::
      (nat_lit 3, { cls := Value.type "dict", data := Data.dict (List.toArray ({ hash := PyData.keyHash P (Str.ofString "__name__"), key := Value.str (Str.ofString "__name__") (165 : Nat), val := Value.str (Str.ofString "law_nz0214_01") (564 : Nat) } :: { hash := PyData.keyHash P (Str.ofString "__doc__"), key := Value.str (Str.ofString "__doc__") (166 : Nat), val := Value.none } :: { hash := PyData.keyHash P (Str.ofString "__package__"), key := Value.str (Str.ofString "__package__") (167 : Nat), val := Value.none } :: { hash := PyData.keyHash P (Str.ofString "__loader__"), key := Value.str (Str.ofString "__loader__") (168 : Nat), val := Value.builtin "__main__.__loader__#opaque" } :: { hash := PyData.keyHash P (Str.ofString "__spec__"), key := Value.str (Str.ofString "__spec__") (169 : Nat), val := Value.none } :: { hash := PyData.keyHash P (Str.ofString "__annotations__"), key := Value.str (Str.ofString "__annotations__") (170 : Nat), val := Value.ref (6 : Nat) } :: { hash := PyData.keyHash P (Str.ofString "__builtins__"), key := Value.str (Str.ofString "__builtins__") (171 : Nat), val := Value.ref (4 : Nat) } :: { hash := PyData.keyHash P (Str.ofString "__file__"), key := Value.str (Str.ofString "__file__") (173 : Nat), val := Value.str (Str.ofString "/claim/cut.py") (172 : Nat) } :: { hash := PyData.keyHash P (Str.ofString "__cached__"), key := Value.str (Str.ofString "__cached__") (174 : Nat), val := Value.none } :: { hash := PyData.keyHash P (Str.ofString "BoardError"), key := Value.str (Str.ofString "BoardError") (216 : Nat), val := Value.ref (32 : Nat) } :: { hash := PyData.keyHash P (Str.ofString "BadArgument"), key := Value.str (Str.ofString "BadArgument") (232 : Nat), val := Value.ref (45 : Nat) } :: { hash := PyData.keyHash P (Str.ofString "BadText"), key := Value.str (Str.ofString "BadText") (258 : Nat), val := Value.ref (64 : Nat) } :: { hash := PyData.keyHash P (Str.ofString "BLANKS"), key := Value.str (Str.ofString "BLANKS") (262 : Nat), val := Value.str (Str.ofString " \t\x0d\n\x0b") (261 : Nat) } :: { hash := PyData.keyHash P (Str.ofString "SIGNS"), key := Value.str (Str.ofString "SIGNS") (264 : Nat), val := Value.str (Str.ofString "<|>&;()") (263 : Nat) } :: { hash := PyData.keyHash P (Str.ofString "MOST_ARGUMENTS"), key := Value.str (Str.ofString "MOST_ARGUMENTS") (266 : Nat), val := Value.int (10 : Int) (265 : Nat) } :: { hash := PyData.keyHash P (Str.ofString "READ"), key := Value.str (Str.ofString "READ") (268 : Nat), val := Value.int (0 : Int) (267 : Nat) } :: { hash := PyData.keyHash P (Str.ofString "WRITE"), key := Value.str (Str.ofString "WRITE") (270 : Nat), val := Value.int (1 : Int) (269 : Nat) } :: { hash := PyData.keyHash P (Str.ofString "CREATE"), key := Value.str (Str.ofString "CREATE") (272 : Nat), val := Value.int (512 : Int) (271 : Nat) } :: { hash := PyData.keyHash P (Str.ofString "EMPTY"), key := Value.str (Str.ofString "EMPTY") (274 : Nat), val := Value.int (1024 : Int) (273 : Nat) } :: { hash := PyData.keyHash P (Str.ofString "AT_END"), key := Value.str (Str.ofString "AT_END") (276 : Nat), val := Value.int (2048 : Int) (275 : Nat) } :: { hash := PyData.keyHash P (Str.ofString "INPUT"), key := Value.str (Str.ofString "INPUT") (278 : Nat), val := Value.int (0 : Int) (277 : Nat) } :: { hash := PyData.keyHash P (Str.ofString "OUTPUT"), key := Value.str (Str.ofString "OUTPUT") (280 : Nat), val := Value.int (1 : Int) (279 : Nat) } :: { hash := PyData.keyHash P (Str.ofString "Run"), key := Value.str (Str.ofString "Run") (309 : Nat), val := Value.ref (83 : Nat) } :: { hash := PyData.keyHash P (Str.ofString "Redirect"), key := Value.str (Str.ofString "Redirect") (344 : Nat), val := Value.ref (104 : Nat) } :: { hash := PyData.keyHash P (Str.ofString "Pair"), key := Value.str (Str.ofString "Pair") (377 : Nat), val := Value.ref (125 : Nat) } :: { hash := PyData.keyHash P (Str.ofString "Back"), key := Value.str (Str.ofString "Back") (406 : Nat), val := Value.ref (146 : Nat) } :: { hash := PyData.keyHash P (Str.ofString "Scanner"), key := Value.str (Str.ofString "Scanner") (481 : Nat), val := Value.ref (209 : Nat) } :: { hash := PyData.keyHash P (Str.ofString "fault"), key := Value.str (Str.ofString "fault") (488 : Nat), val := Value.ref (220 : Nat) } :: { hash := PyData.keyHash P (Str.ofString "parse"), key := Value.str (Str.ofString "parse") (497 : Nat), val := Value.ref (227 : Nat) } :: { hash := PyData.keyHash P (Str.ofString "parse_line"), key := Value.str (Str.ofString "parse_line") (505 : Nat), val := Value.ref (234 : Nat) } :: { hash := PyData.keyHash P (Str.ofString "parse_pipe"), key := Value.str (Str.ofString "parse_pipe") (513 : Nat), val := Value.ref (241 : Nat) } :: { hash := PyData.keyHash P (Str.ofString "parse_redirects"), key := Value.str (Str.ofString "parse_redirects") (523 : Nat), val := Value.ref (248 : Nat) } :: { hash := PyData.keyHash P (Str.ofString "parse_block"), key := Value.str (Str.ofString "parse_block") (531 : Nat), val := Value.ref (255 : Nat) } :: { hash := PyData.keyHash P (Str.ofString "parse_command"), key := Value.str (Str.ofString "parse_command") (540 : Nat), val := Value.ref (262 : Nat) } :: { hash := PyData.keyHash P (Str.ofString "text_of"), key := Value.str (Str.ofString "text_of") (549 : Nat), val := Value.ref (269 : Nat) } :: { hash := PyData.keyHash P (Str.ofString "grouped"), key := Value.str (Str.ofString "grouped") (556 : Nat), val := Value.ref (276 : Nat) } :: { hash := PyData.keyHash P (Str.ofString "piped"), key := Value.str (Str.ofString "piped") (563 : Nat), val := Value.ref (283 : Nat) } :: { hash := PyData.keyHash P (Str.ofString "_law_pool"), key := Value.str (Str.ofString "_law_pool") (574 : Nat), val := Value.ref (290 : Nat) } :: { hash := PyData.keyHash P (Str.ofString "_law_take"), key := Value.str (Str.ofString "_law_take") (583 : Nat), val := Value.ref (297 : Nat) } :: { hash := PyData.keyHash P (Str.ofString "_law_made"), key := Value.str (Str.ofString "_law_made") (589 : Nat), val := Value.ref (302 : Nat) } :: { hash := PyData.keyHash P (Str.ofString "_law_shape"), key := Value.str (Str.ofString "_law_shape") (596 : Nat), val := Value.ref (309 : Nat) } :: { hash := PyData.keyHash P (Str.ofString "_law_right"), key := Value.str (Str.ofString "_law_right") (606 : Nat), val := Value.ref (316 : Nat) } :: { hash := PyData.keyHash P (Str.ofString "law"), key := Value.str (Str.ofString "law") (619 : Nat), val := Value.ref (323 : Nat) } :: [])) (43 : Nat) }) ::
      (nat_lit 15, { cls := Value.type "tuple", data := Data.seq #[Value.type "ValueError"] }) ::
      (nat_lit 22, { cls := Value.type "tuple", data := Data.seq #[Value.str (Str.ofString "") (201 : Nat)] }) ::
      (nat_lit 23, { cls := Value.type "tuple", data := Data.seq #[] }) ::
      (nat_lit 25, { cls := Value.type "tuple", data := Data.seq #[Value.str (Str.ofString "self") (205 : Nat), Value.str (Str.ofString "reason") (206 : Nat)] }) ::
      (nat_lit 26, { cls := Value.type "tuple", data := Data.seq #[] }) ::
      (nat_lit 28, { cls := Value.type "code", data := Data.fields #[Value.str (Str.ofString "__init__") (202 : Nat), Value.str (Str.ofString "BoardError.__init__") (203 : Nat), Value.str (Str.ofString "/claim/cut.py") (204 : Nat), Value.int (4 : Int) (0 : Nat), Value.int (2 : Int) (0 : Nat), Value.int (0 : Int) (0 : Nat), Value.int (0 : Int) (0 : Nat), Value.int (3 : Int) (0 : Nat), Value.ref (23 : Nat), Value.bool Bool.true, Value.int (181 : Int) (0 : Nat), Value.ref (24 : Nat), Value.none, Value.ref (25 : Nat), Value.ref (26 : Nat), Value.ref (27 : Nat), Value.int (207 : Int) (0 : Nat), Value.int (4 : Int) (0 : Nat), Value.str (Str.ofString "/claim/cut.py") (208 : Nat)] }) ::
      (nat_lit 29, { cls := Value.type "function", data := Data.func { name := Str.ofString "__init__", qualname := Str.ofString "BoardError.__init__", params := pa29, body := FuncBody.stmts bo29, scope := sc29, globals := (3 : Nat), closure := [], defaults := Value.ref (22 : Nat), kwdefaults := Value.none, pyModule := Value.str (Str.ofString "pipeboard.errors") (187 : Nat), code := Value.ref (28 : Nat) } }) ::
      (nat_lit 30, { cls := Value.type "tuple", data := Data.seq #[Value.str (Str.ofString "reason") (210 : Nat)] }) ::
      (nat_lit 31, { cls := Value.type "dict", data := Data.dict #[{ hash := PyData.keyHash P (Str.ofString "__module__"), key := Value.str (Str.ofString "__module__") (196 : Nat), val := Value.str (Str.ofString "pipeboard.errors") (187 : Nat) }, { hash := PyData.keyHash P (Str.ofString "__firstlineno__"), key := Value.str (Str.ofString "__firstlineno__") (200 : Nat), val := Value.int (2 : Int) (199 : Nat) }, { hash := PyData.keyHash P (Str.ofString "__init__"), key := Value.str (Str.ofString "__init__") (209 : Nat), val := Value.ref (29 : Nat) }, { hash := PyData.keyHash P (Str.ofString "__static_attributes__"), key := Value.str (Str.ofString "__static_attributes__") (211 : Nat), val := Value.ref (30 : Nat) }, { hash := PyData.keyHash P (Str.ofString "__weakref__"), key := Value.str (Str.ofString "__weakref__") (213 : Nat), val := Value.ref (33 : Nat) }, { hash := PyData.keyHash P (Str.ofString "__doc__"), key := Value.str (Str.ofString "__doc__") (214 : Nat), val := Value.none }] (3 : Nat) }) ::
      (nat_lit 32, { cls := Value.type "type", data := Data.cls { name := Str.ofString "BoardError", bases := [Value.type "ValueError"], mro := [Value.ref (32 : Nat), Value.type "ValueError", Value.type "Exception", Value.type "BaseException", Value.type "object"], ns := (31 : Nat), qualname := Str.ofString "BoardError", subclasses := [Value.ref (45 : Nat), Value.ref (64 : Nat)] }, slots := #[Option.some (Value.ref (15 : Nat)), Option.none, Option.some (Value.str (Str.ofString "BoardError") (189 : Nat)), Option.some (Value.str (Str.ofString "BoardError") (197 : Nat)), Option.some (Value.builtin "ValueError.__new__"), Option.some (Value.bool Bool.true)] }) ::
      (nat_lit 33, { cls := Value.type "getset_descriptor", data := Data.fields #[Value.str (Str.ofString "__weakref__") (212 : Nat), Value.ref (32 : Nat), Value.builtin "ExceptionGroup.__weakref__", Value.none] }) ::
      (nat_lit 36, { cls := Value.type "tuple", data := Data.seq #[Value.ref (32 : Nat)] }) ::
      (nat_lit 43, { cls := Value.type "tuple", data := Data.seq #[] }) ::
      (nat_lit 44, { cls := Value.type "dict", data := Data.dict #[{ hash := PyData.keyHash P (Str.ofString "__module__"), key := Value.str (Str.ofString "__module__") (224 : Nat), val := Value.str (Str.ofString "pipeboard.errors") (187 : Nat) }, { hash := PyData.keyHash P (Str.ofString "__firstlineno__"), key := Value.str (Str.ofString "__firstlineno__") (228 : Nat), val := Value.int (7 : Int) (227 : Nat) }, { hash := PyData.keyHash P (Str.ofString "__static_attributes__"), key := Value.str (Str.ofString "__static_attributes__") (229 : Nat), val := Value.ref (43 : Nat) }, { hash := PyData.keyHash P (Str.ofString "__doc__"), key := Value.str (Str.ofString "__doc__") (230 : Nat), val := Value.none }] (2 : Nat) }) ::
      (nat_lit 45, { cls := Value.type "type", data := Data.cls { name := Str.ofString "BadArgument", bases := [Value.ref (32 : Nat)], mro := [Value.ref (45 : Nat), Value.ref (32 : Nat), Value.type "ValueError", Value.type "Exception", Value.type "BaseException", Value.type "object"], ns := (44 : Nat), qualname := Str.ofString "BadArgument" }, slots := #[Option.some (Value.ref (36 : Nat)), Option.none, Option.some (Value.str (Str.ofString "BadArgument") (217 : Nat)), Option.some (Value.str (Str.ofString "BadArgument") (225 : Nat)), Option.some (Value.builtin "ValueError.__new__"), Option.some (Value.bool Bool.true)] }) ::
      (nat_lit 48, { cls := Value.type "tuple", data := Data.seq #[Value.ref (32 : Nat)] }) ::
      (nat_lit 55, { cls := Value.type "tuple", data := Data.seq #[] }) ::
      (nat_lit 57, { cls := Value.type "tuple", data := Data.seq #[Value.str (Str.ofString "self") (248 : Nat), Value.str (Str.ofString "line") (249 : Nat), Value.str (Str.ofString "reason") (250 : Nat)] }) ::
      (nat_lit 58, { cls := Value.type "tuple", data := Data.seq #[] }) ::
      (nat_lit 60, { cls := Value.type "code", data := Data.fields #[Value.str (Str.ofString "__init__") (245 : Nat), Value.str (Str.ofString "BadText.__init__") (246 : Nat), Value.str (Str.ofString "/claim/cut.py") (247 : Nat), Value.int (11 : Int) (0 : Nat), Value.int (3 : Int) (0 : Nat), Value.int (0 : Int) (0 : Nat), Value.int (0 : Int) (0 : Nat), Value.int (3 : Int) (0 : Nat), Value.ref (55 : Nat), Value.bool Bool.true, Value.int (181 : Int) (0 : Nat), Value.ref (56 : Nat), Value.none, Value.ref (57 : Nat), Value.ref (58 : Nat), Value.ref (59 : Nat), Value.int (251 : Int) (0 : Nat), Value.int (11 : Int) (0 : Nat), Value.str (Str.ofString "/claim/cut.py") (252 : Nat)] }) ::
      (nat_lit 61, { cls := Value.type "function", data := Data.func { name := Str.ofString "__init__", qualname := Str.ofString "BadText.__init__", params := pa61, body := FuncBody.stmts bo61, scope := sc61, globals := (3 : Nat), closure := [], defaults := Value.none, kwdefaults := Value.none, pyModule := Value.str (Str.ofString "pipeboard.errors") (187 : Nat), code := Value.ref (60 : Nat) } }) ::
      (nat_lit 62, { cls := Value.type "tuple", data := Data.seq #[Value.str (Str.ofString "line") (254 : Nat)] }) ::
      (nat_lit 63, { cls := Value.type "dict", data := Data.dict #[{ hash := PyData.keyHash P (Str.ofString "__module__"), key := Value.str (Str.ofString "__module__") (240 : Nat), val := Value.str (Str.ofString "pipeboard.errors") (187 : Nat) }, { hash := PyData.keyHash P (Str.ofString "__firstlineno__"), key := Value.str (Str.ofString "__firstlineno__") (244 : Nat), val := Value.int (9 : Int) (243 : Nat) }, { hash := PyData.keyHash P (Str.ofString "__init__"), key := Value.str (Str.ofString "__init__") (253 : Nat), val := Value.ref (61 : Nat) }, { hash := PyData.keyHash P (Str.ofString "__static_attributes__"), key := Value.str (Str.ofString "__static_attributes__") (255 : Nat), val := Value.ref (62 : Nat) }, { hash := PyData.keyHash P (Str.ofString "__doc__"), key := Value.str (Str.ofString "__doc__") (256 : Nat), val := Value.none }] (2 : Nat) }) ::
      (nat_lit 64, { cls := Value.type "type", data := Data.cls { name := Str.ofString "BadText", bases := [Value.ref (32 : Nat)], mro := [Value.ref (64 : Nat), Value.ref (32 : Nat), Value.type "ValueError", Value.type "Exception", Value.type "BaseException", Value.type "object"], ns := (63 : Nat), qualname := Str.ofString "BadText" }, slots := #[Option.some (Value.ref (48 : Nat)), Option.none, Option.some (Value.str (Str.ofString "BadText") (233 : Nat)), Option.some (Value.str (Str.ofString "BadText") (241 : Nat)), Option.some (Value.builtin "ValueError.__new__"), Option.some (Value.bool Bool.true)] }) ::
      (nat_lit 74, { cls := Value.type "tuple", data := Data.seq #[] }) ::
      (nat_lit 76, { cls := Value.type "tuple", data := Data.seq #[Value.str (Str.ofString "self") (296 : Nat), Value.str (Str.ofString "arguments") (297 : Nat)] }) ::
      (nat_lit 77, { cls := Value.type "tuple", data := Data.seq #[] }) ::
      (nat_lit 79, { cls := Value.type "code", data := Data.fields #[Value.str (Str.ofString "__init__") (293 : Nat), Value.str (Str.ofString "Run.__init__") (294 : Nat), Value.str (Str.ofString "/claim/cut.py") (295 : Nat), Value.int (27 : Int) (0 : Nat), Value.int (2 : Int) (0 : Nat), Value.int (0 : Int) (0 : Nat), Value.int (0 : Int) (0 : Nat), Value.int (3 : Int) (0 : Nat), Value.ref (74 : Nat), Value.bool Bool.true, Value.int (181 : Int) (0 : Nat), Value.ref (75 : Nat), Value.none, Value.ref (76 : Nat), Value.ref (77 : Nat), Value.ref (78 : Nat), Value.int (298 : Int) (0 : Nat), Value.int (27 : Int) (0 : Nat), Value.str (Str.ofString "/claim/cut.py") (299 : Nat)] }) ::
      (nat_lit 80, { cls := Value.type "function", data := Data.func { name := Str.ofString "__init__", qualname := Str.ofString "Run.__init__", params := pa80, body := FuncBody.stmts bo80, scope := sc80, globals := (3 : Nat), closure := [], defaults := Value.none, kwdefaults := Value.none, pyModule := Value.str (Str.ofString "pipeboard.shell") (259 : Nat), code := Value.ref (79 : Nat) } }) ::
      (nat_lit 81, { cls := Value.type "tuple", data := Data.seq #[Value.str (Str.ofString "arguments") (301 : Nat)] }) ::
      (nat_lit 82, { cls := Value.type "dict", data := Data.dict #[{ hash := PyData.keyHash P (Str.ofString "__module__"), key := Value.str (Str.ofString "__module__") (288 : Nat), val := Value.str (Str.ofString "pipeboard.shell") (259 : Nat) }, { hash := PyData.keyHash P (Str.ofString "__firstlineno__"), key := Value.str (Str.ofString "__firstlineno__") (292 : Nat), val := Value.int (25 : Int) (291 : Nat) }, { hash := PyData.keyHash P (Str.ofString "__init__"), key := Value.str (Str.ofString "__init__") (300 : Nat), val := Value.ref (80 : Nat) }, { hash := PyData.keyHash P (Str.ofString "__static_attributes__"), key := Value.str (Str.ofString "__static_attributes__") (302 : Nat), val := Value.ref (81 : Nat) }, { hash := PyData.keyHash P (Str.ofString "__dict__"), key := Value.str (Str.ofString "__dict__") (304 : Nat), val := Value.ref (84 : Nat) }, { hash := PyData.keyHash P (Str.ofString "__weakref__"), key := Value.str (Str.ofString "__weakref__") (306 : Nat), val := Value.ref (85 : Nat) }, { hash := PyData.keyHash P (Str.ofString "__doc__"), key := Value.str (Str.ofString "__doc__") (307 : Nat), val := Value.none }] (4 : Nat) }) ::
      (nat_lit 83, { cls := Value.type "type", data := Data.cls { name := Str.ofString "Run", bases := [Value.type "object"], mro := [Value.ref (83 : Nat), Value.type "object"], ns := (82 : Nat), qualname := Str.ofString "Run" }, slots := #[Option.none, Option.none, Option.some (Value.str (Str.ofString "Run") (281 : Nat)), Option.some (Value.str (Str.ofString "Run") (289 : Nat)), Option.some (Value.builtin "object.__new__"), Option.some (Value.bool Bool.true)] }) ::
      (nat_lit 84, { cls := Value.type "getset_descriptor", data := Data.fields #[Value.str (Str.ofString "__dict__") (303 : Nat), Value.ref (83 : Nat), Value.builtin "function.__dict__", Value.builtin "function.__dict__#set"] }) ::
      (nat_lit 85, { cls := Value.type "getset_descriptor", data := Data.fields #[Value.str (Str.ofString "__weakref__") (305 : Nat), Value.ref (83 : Nat), Value.builtin "ExceptionGroup.__weakref__", Value.none] }) ::
      (nat_lit 95, { cls := Value.type "tuple", data := Data.seq #[] }) ::
      (nat_lit 97, { cls := Value.type "tuple", data := Data.seq #[Value.str (Str.ofString "self") (325 : Nat), Value.str (Str.ofString "command") (326 : Nat), Value.str (Str.ofString "path") (327 : Nat), Value.str (Str.ofString "mode") (328 : Nat), Value.str (Str.ofString "descriptor") (329 : Nat)] }) ::
      (nat_lit 98, { cls := Value.type "tuple", data := Data.seq #[] }) ::
      (nat_lit 100, { cls := Value.type "code", data := Data.fields #[Value.str (Str.ofString "__init__") (322 : Nat), Value.str (Str.ofString "Redirect.__init__") (323 : Nat), Value.str (Str.ofString "/claim/cut.py") (324 : Nat), Value.int (31 : Int) (0 : Nat), Value.int (5 : Int) (0 : Nat), Value.int (0 : Int) (0 : Nat), Value.int (0 : Int) (0 : Nat), Value.int (3 : Int) (0 : Nat), Value.ref (95 : Nat), Value.bool Bool.true, Value.int (181 : Int) (0 : Nat), Value.ref (96 : Nat), Value.none, Value.ref (97 : Nat), Value.ref (98 : Nat), Value.ref (99 : Nat), Value.int (330 : Int) (0 : Nat), Value.int (31 : Int) (0 : Nat), Value.str (Str.ofString "/claim/cut.py") (331 : Nat)] }) ::
      (nat_lit 101, { cls := Value.type "function", data := Data.func { name := Str.ofString "__init__", qualname := Str.ofString "Redirect.__init__", params := pa101, body := FuncBody.stmts bo101, scope := sc101, globals := (3 : Nat), closure := [], defaults := Value.none, kwdefaults := Value.none, pyModule := Value.str (Str.ofString "pipeboard.shell") (259 : Nat), code := Value.ref (100 : Nat) } }) ::
      (nat_lit 102, { cls := Value.type "tuple", data := Data.seq #[Value.str (Str.ofString "command") (333 : Nat), Value.str (Str.ofString "descriptor") (334 : Nat), Value.str (Str.ofString "mode") (335 : Nat), Value.str (Str.ofString "path") (336 : Nat)] }) ::
      (nat_lit 103, { cls := Value.type "dict", data := Data.dict #[{ hash := PyData.keyHash P (Str.ofString "__module__"), key := Value.str (Str.ofString "__module__") (317 : Nat), val := Value.str (Str.ofString "pipeboard.shell") (259 : Nat) }, { hash := PyData.keyHash P (Str.ofString "__firstlineno__"), key := Value.str (Str.ofString "__firstlineno__") (321 : Nat), val := Value.int (29 : Int) (320 : Nat) }, { hash := PyData.keyHash P (Str.ofString "__init__"), key := Value.str (Str.ofString "__init__") (332 : Nat), val := Value.ref (101 : Nat) }, { hash := PyData.keyHash P (Str.ofString "__static_attributes__"), key := Value.str (Str.ofString "__static_attributes__") (337 : Nat), val := Value.ref (102 : Nat) }, { hash := PyData.keyHash P (Str.ofString "__dict__"), key := Value.str (Str.ofString "__dict__") (339 : Nat), val := Value.ref (105 : Nat) }, { hash := PyData.keyHash P (Str.ofString "__weakref__"), key := Value.str (Str.ofString "__weakref__") (341 : Nat), val := Value.ref (106 : Nat) }, { hash := PyData.keyHash P (Str.ofString "__doc__"), key := Value.str (Str.ofString "__doc__") (342 : Nat), val := Value.none }] (4 : Nat) }) ::
      (nat_lit 104, { cls := Value.type "type", data := Data.cls { name := Str.ofString "Redirect", bases := [Value.type "object"], mro := [Value.ref (104 : Nat), Value.type "object"], ns := (103 : Nat), qualname := Str.ofString "Redirect" }, slots := #[Option.none, Option.none, Option.some (Value.str (Str.ofString "Redirect") (310 : Nat)), Option.some (Value.str (Str.ofString "Redirect") (318 : Nat)), Option.some (Value.builtin "object.__new__"), Option.some (Value.bool Bool.true)] }) ::
      (nat_lit 105, { cls := Value.type "getset_descriptor", data := Data.fields #[Value.str (Str.ofString "__dict__") (338 : Nat), Value.ref (104 : Nat), Value.builtin "function.__dict__", Value.builtin "function.__dict__#set"] }) ::
      (nat_lit 106, { cls := Value.type "getset_descriptor", data := Data.fields #[Value.str (Str.ofString "__weakref__") (340 : Nat), Value.ref (104 : Nat), Value.builtin "ExceptionGroup.__weakref__", Value.none] }) ::
      (nat_lit 116, { cls := Value.type "tuple", data := Data.seq #[] }) ::
      (nat_lit 118, { cls := Value.type "tuple", data := Data.seq #[Value.str (Str.ofString "self") (360 : Nat), Value.str (Str.ofString "sign") (361 : Nat), Value.str (Str.ofString "left") (362 : Nat), Value.str (Str.ofString "right") (363 : Nat)] }) ::
      (nat_lit 119, { cls := Value.type "tuple", data := Data.seq #[] }) ::
      (nat_lit 121, { cls := Value.type "code", data := Data.fields #[Value.str (Str.ofString "__init__") (357 : Nat), Value.str (Str.ofString "Pair.__init__") (358 : Nat), Value.str (Str.ofString "/claim/cut.py") (359 : Nat), Value.int (38 : Int) (0 : Nat), Value.int (4 : Int) (0 : Nat), Value.int (0 : Int) (0 : Nat), Value.int (0 : Int) (0 : Nat), Value.int (3 : Int) (0 : Nat), Value.ref (116 : Nat), Value.bool Bool.true, Value.int (181 : Int) (0 : Nat), Value.ref (117 : Nat), Value.none, Value.ref (118 : Nat), Value.ref (119 : Nat), Value.ref (120 : Nat), Value.int (364 : Int) (0 : Nat), Value.int (38 : Int) (0 : Nat), Value.str (Str.ofString "/claim/cut.py") (365 : Nat)] }) ::
      (nat_lit 122, { cls := Value.type "function", data := Data.func { name := Str.ofString "__init__", qualname := Str.ofString "Pair.__init__", params := pa122, body := FuncBody.stmts bo122, scope := sc122, globals := (3 : Nat), closure := [], defaults := Value.none, kwdefaults := Value.none, pyModule := Value.str (Str.ofString "pipeboard.shell") (259 : Nat), code := Value.ref (121 : Nat) } }) ::
      (nat_lit 123, { cls := Value.type "tuple", data := Data.seq #[Value.str (Str.ofString "left") (367 : Nat), Value.str (Str.ofString "right") (368 : Nat), Value.str (Str.ofString "sign") (369 : Nat)] }) ::
      (nat_lit 124, { cls := Value.type "dict", data := Data.dict #[{ hash := PyData.keyHash P (Str.ofString "__module__"), key := Value.str (Str.ofString "__module__") (352 : Nat), val := Value.str (Str.ofString "pipeboard.shell") (259 : Nat) }, { hash := PyData.keyHash P (Str.ofString "__firstlineno__"), key := Value.str (Str.ofString "__firstlineno__") (356 : Nat), val := Value.int (36 : Int) (355 : Nat) }, { hash := PyData.keyHash P (Str.ofString "__init__"), key := Value.str (Str.ofString "__init__") (366 : Nat), val := Value.ref (122 : Nat) }, { hash := PyData.keyHash P (Str.ofString "__static_attributes__"), key := Value.str (Str.ofString "__static_attributes__") (370 : Nat), val := Value.ref (123 : Nat) }, { hash := PyData.keyHash P (Str.ofString "__dict__"), key := Value.str (Str.ofString "__dict__") (372 : Nat), val := Value.ref (126 : Nat) }, { hash := PyData.keyHash P (Str.ofString "__weakref__"), key := Value.str (Str.ofString "__weakref__") (374 : Nat), val := Value.ref (127 : Nat) }, { hash := PyData.keyHash P (Str.ofString "__doc__"), key := Value.str (Str.ofString "__doc__") (375 : Nat), val := Value.none }] (4 : Nat) }) ::
      (nat_lit 125, { cls := Value.type "type", data := Data.cls { name := Str.ofString "Pair", bases := [Value.type "object"], mro := [Value.ref (125 : Nat), Value.type "object"], ns := (124 : Nat), qualname := Str.ofString "Pair" }, slots := #[Option.none, Option.none, Option.some (Value.str (Str.ofString "Pair") (345 : Nat)), Option.some (Value.str (Str.ofString "Pair") (353 : Nat)), Option.some (Value.builtin "object.__new__"), Option.some (Value.bool Bool.true)] }) ::
      (nat_lit 126, { cls := Value.type "getset_descriptor", data := Data.fields #[Value.str (Str.ofString "__dict__") (371 : Nat), Value.ref (125 : Nat), Value.builtin "function.__dict__", Value.builtin "function.__dict__#set"] }) ::
      (nat_lit 127, { cls := Value.type "getset_descriptor", data := Data.fields #[Value.str (Str.ofString "__weakref__") (373 : Nat), Value.ref (125 : Nat), Value.builtin "ExceptionGroup.__weakref__", Value.none] }) ::
      (nat_lit 137, { cls := Value.type "tuple", data := Data.seq #[] }) ::
      (nat_lit 139, { cls := Value.type "tuple", data := Data.seq #[Value.str (Str.ofString "self") (393 : Nat), Value.str (Str.ofString "command") (394 : Nat)] }) ::
      (nat_lit 140, { cls := Value.type "tuple", data := Data.seq #[] }) ::
      (nat_lit 142, { cls := Value.type "code", data := Data.fields #[Value.str (Str.ofString "__init__") (390 : Nat), Value.str (Str.ofString "Back.__init__") (391 : Nat), Value.str (Str.ofString "/claim/cut.py") (392 : Nat), Value.int (44 : Int) (0 : Nat), Value.int (2 : Int) (0 : Nat), Value.int (0 : Int) (0 : Nat), Value.int (0 : Int) (0 : Nat), Value.int (3 : Int) (0 : Nat), Value.ref (137 : Nat), Value.bool Bool.true, Value.int (181 : Int) (0 : Nat), Value.ref (138 : Nat), Value.none, Value.ref (139 : Nat), Value.ref (140 : Nat), Value.ref (141 : Nat), Value.int (395 : Int) (0 : Nat), Value.int (44 : Int) (0 : Nat), Value.str (Str.ofString "/claim/cut.py") (396 : Nat)] }) ::
      (nat_lit 143, { cls := Value.type "function", data := Data.func { name := Str.ofString "__init__", qualname := Str.ofString "Back.__init__", params := pa143, body := FuncBody.stmts bo143, scope := sc143, globals := (3 : Nat), closure := [], defaults := Value.none, kwdefaults := Value.none, pyModule := Value.str (Str.ofString "pipeboard.shell") (259 : Nat), code := Value.ref (142 : Nat) } }) ::
      (nat_lit 144, { cls := Value.type "tuple", data := Data.seq #[Value.str (Str.ofString "command") (398 : Nat)] }) ::
      (nat_lit 145, { cls := Value.type "dict", data := Data.dict #[{ hash := PyData.keyHash P (Str.ofString "__module__"), key := Value.str (Str.ofString "__module__") (385 : Nat), val := Value.str (Str.ofString "pipeboard.shell") (259 : Nat) }, { hash := PyData.keyHash P (Str.ofString "__firstlineno__"), key := Value.str (Str.ofString "__firstlineno__") (389 : Nat), val := Value.int (42 : Int) (388 : Nat) }, { hash := PyData.keyHash P (Str.ofString "__init__"), key := Value.str (Str.ofString "__init__") (397 : Nat), val := Value.ref (143 : Nat) }, { hash := PyData.keyHash P (Str.ofString "__static_attributes__"), key := Value.str (Str.ofString "__static_attributes__") (399 : Nat), val := Value.ref (144 : Nat) }, { hash := PyData.keyHash P (Str.ofString "__dict__"), key := Value.str (Str.ofString "__dict__") (401 : Nat), val := Value.ref (147 : Nat) }, { hash := PyData.keyHash P (Str.ofString "__weakref__"), key := Value.str (Str.ofString "__weakref__") (403 : Nat), val := Value.ref (148 : Nat) }, { hash := PyData.keyHash P (Str.ofString "__doc__"), key := Value.str (Str.ofString "__doc__") (404 : Nat), val := Value.none }] (4 : Nat) }) ::
      (nat_lit 146, { cls := Value.type "type", data := Data.cls { name := Str.ofString "Back", bases := [Value.type "object"], mro := [Value.ref (146 : Nat), Value.type "object"], ns := (145 : Nat), qualname := Str.ofString "Back" }, slots := #[Option.none, Option.none, Option.some (Value.str (Str.ofString "Back") (378 : Nat)), Option.some (Value.str (Str.ofString "Back") (386 : Nat)), Option.some (Value.builtin "object.__new__"), Option.some (Value.bool Bool.true)] }) ::
      (nat_lit 147, { cls := Value.type "getset_descriptor", data := Data.fields #[Value.str (Str.ofString "__dict__") (400 : Nat), Value.ref (146 : Nat), Value.builtin "function.__dict__", Value.builtin "function.__dict__#set"] }) ::
      (nat_lit 148, { cls := Value.type "getset_descriptor", data := Data.fields #[Value.str (Str.ofString "__weakref__") (402 : Nat), Value.ref (146 : Nat), Value.builtin "ExceptionGroup.__weakref__", Value.none] }) ::
      (nat_lit 158, { cls := Value.type "tuple", data := Data.seq #[] }) ::
      (nat_lit 160, { cls := Value.type "tuple", data := Data.seq #[Value.str (Str.ofString "self") (422 : Nat), Value.str (Str.ofString "line") (423 : Nat)] }) ::
      (nat_lit 161, { cls := Value.type "tuple", data := Data.seq #[] }) ::
      (nat_lit 163, { cls := Value.type "code", data := Data.fields #[Value.str (Str.ofString "__init__") (419 : Nat), Value.str (Str.ofString "Scanner.__init__") (420 : Nat), Value.str (Str.ofString "/claim/cut.py") (421 : Nat), Value.int (48 : Int) (0 : Nat), Value.int (2 : Int) (0 : Nat), Value.int (0 : Int) (0 : Nat), Value.int (0 : Int) (0 : Nat), Value.int (3 : Int) (0 : Nat), Value.ref (158 : Nat), Value.bool Bool.true, Value.int (181 : Int) (0 : Nat), Value.ref (159 : Nat), Value.none, Value.ref (160 : Nat), Value.ref (161 : Nat), Value.ref (162 : Nat), Value.int (424 : Int) (0 : Nat), Value.int (48 : Int) (0 : Nat), Value.str (Str.ofString "/claim/cut.py") (425 : Nat)] }) ::
      (nat_lit 164, { cls := Value.type "function", data := Data.func { name := Str.ofString "__init__", qualname := Str.ofString "Scanner.__init__", params := pa164, body := FuncBody.stmts bo164, scope := sc164, globals := (3 : Nat), closure := [], defaults := Value.none, kwdefaults := Value.none, pyModule := Value.str (Str.ofString "pipeboard.shell") (259 : Nat), code := Value.ref (163 : Nat) } }) ::
      (nat_lit 165, { cls := Value.type "tuple", data := Data.seq #[] }) ::
      (nat_lit 167, { cls := Value.type "tuple", data := Data.seq #[Value.str (Str.ofString "self") (430 : Nat)] }) ::
      (nat_lit 168, { cls := Value.type "tuple", data := Data.seq #[] }) ::
      (nat_lit 170, { cls := Value.type "code", data := Data.fields #[Value.str (Str.ofString "blanks") (427 : Nat), Value.str (Str.ofString "Scanner.blanks") (428 : Nat), Value.str (Str.ofString "/claim/cut.py") (429 : Nat), Value.int (52 : Int) (0 : Nat), Value.int (1 : Int) (0 : Nat), Value.int (0 : Int) (0 : Nat), Value.int (0 : Int) (0 : Nat), Value.int (3 : Int) (0 : Nat), Value.ref (165 : Nat), Value.bool Bool.true, Value.int (181 : Int) (0 : Nat), Value.ref (166 : Nat), Value.none, Value.ref (167 : Nat), Value.ref (168 : Nat), Value.ref (169 : Nat), Value.int (431 : Int) (0 : Nat), Value.int (52 : Int) (0 : Nat), Value.str (Str.ofString "/claim/cut.py") (432 : Nat)] }) ::
      (nat_lit 171, { cls := Value.type "function", data := Data.func { name := Str.ofString "blanks", qualname := Str.ofString "Scanner.blanks", params := pa171, body := FuncBody.stmts bo171, scope := sc171, globals := (3 : Nat), closure := [], defaults := Value.none, kwdefaults := Value.none, pyModule := Value.str (Str.ofString "pipeboard.shell") (259 : Nat), code := Value.ref (170 : Nat) } }) ::
      (nat_lit 172, { cls := Value.type "tuple", data := Data.seq #[] }) ::
      (nat_lit 174, { cls := Value.type "tuple", data := Data.seq #[Value.str (Str.ofString "self") (437 : Nat), Value.str (Str.ofString "signs") (438 : Nat)] }) ::
      (nat_lit 175, { cls := Value.type "tuple", data := Data.seq #[] }) ::
      (nat_lit 177, { cls := Value.type "code", data := Data.fields #[Value.str (Str.ofString "next_is") (434 : Nat), Value.str (Str.ofString "Scanner.next_is") (435 : Nat), Value.str (Str.ofString "/claim/cut.py") (436 : Nat), Value.int (56 : Int) (0 : Nat), Value.int (2 : Int) (0 : Nat), Value.int (0 : Int) (0 : Nat), Value.int (0 : Int) (0 : Nat), Value.int (3 : Int) (0 : Nat), Value.ref (172 : Nat), Value.bool Bool.true, Value.int (181 : Int) (0 : Nat), Value.ref (173 : Nat), Value.none, Value.ref (174 : Nat), Value.ref (175 : Nat), Value.ref (176 : Nat), Value.int (439 : Int) (0 : Nat), Value.int (56 : Int) (0 : Nat), Value.str (Str.ofString "/claim/cut.py") (440 : Nat)] }) ::
      (nat_lit 178, { cls := Value.type "function", data := Data.func { name := Str.ofString "next_is", qualname := Str.ofString "Scanner.next_is", params := pa178, body := FuncBody.stmts bo178, scope := sc178, globals := (3 : Nat), closure := [], defaults := Value.none, kwdefaults := Value.none, pyModule := Value.str (Str.ofString "pipeboard.shell") (259 : Nat), code := Value.ref (177 : Nat) } }) ::
      (nat_lit 179, { cls := Value.type "tuple", data := Data.seq #[] }) ::
      (nat_lit 181, { cls := Value.type "tuple", data := Data.seq #[Value.str (Str.ofString "self") (445 : Nat)] }) ::
      (nat_lit 182, { cls := Value.type "tuple", data := Data.seq #[] }) ::
      (nat_lit 184, { cls := Value.type "code", data := Data.fields #[Value.str (Str.ofString "at_end") (442 : Nat), Value.str (Str.ofString "Scanner.at_end") (443 : Nat), Value.str (Str.ofString "/claim/cut.py") (444 : Nat), Value.int (60 : Int) (0 : Nat), Value.int (1 : Int) (0 : Nat), Value.int (0 : Int) (0 : Nat), Value.int (0 : Int) (0 : Nat), Value.int (3 : Int) (0 : Nat), Value.ref (179 : Nat), Value.bool Bool.true, Value.int (181 : Int) (0 : Nat), Value.ref (180 : Nat), Value.none, Value.ref (181 : Nat), Value.ref (182 : Nat), Value.ref (183 : Nat), Value.int (446 : Int) (0 : Nat), Value.int (60 : Int) (0 : Nat), Value.str (Str.ofString "/claim/cut.py") (447 : Nat)] }) ::
      (nat_lit 185, { cls := Value.type "function", data := Data.func { name := Str.ofString "at_end", qualname := Str.ofString "Scanner.at_end", params := pa185, body := FuncBody.stmts bo185, scope := sc185, globals := (3 : Nat), closure := [], defaults := Value.none, kwdefaults := Value.none, pyModule := Value.str (Str.ofString "pipeboard.shell") (259 : Nat), code := Value.ref (184 : Nat) } }) ::
      (nat_lit 186, { cls := Value.type "tuple", data := Data.seq #[] }) ::
      (nat_lit 188, { cls := Value.type "tuple", data := Data.seq #[Value.str (Str.ofString "self") (452 : Nat), Value.str (Str.ofString "found") (453 : Nat)] }) ::
      (nat_lit 189, { cls := Value.type "tuple", data := Data.seq #[] }) ::
      (nat_lit 191, { cls := Value.type "code", data := Data.fields #[Value.str (Str.ofString "sign") (449 : Nat), Value.str (Str.ofString "Scanner.sign") (450 : Nat), Value.str (Str.ofString "/claim/cut.py") (451 : Nat), Value.int (64 : Int) (0 : Nat), Value.int (1 : Int) (0 : Nat), Value.int (0 : Int) (0 : Nat), Value.int (0 : Int) (0 : Nat), Value.int (3 : Int) (0 : Nat), Value.ref (186 : Nat), Value.bool Bool.true, Value.int (181 : Int) (0 : Nat), Value.ref (187 : Nat), Value.none, Value.ref (188 : Nat), Value.ref (189 : Nat), Value.ref (190 : Nat), Value.int (454 : Int) (0 : Nat), Value.int (64 : Int) (0 : Nat), Value.str (Str.ofString "/claim/cut.py") (455 : Nat)] }) ::
      (nat_lit 192, { cls := Value.type "function", data := Data.func { name := Str.ofString "sign", qualname := Str.ofString "Scanner.sign", params := pa192, body := FuncBody.stmts bo192, scope := sc192, globals := (3 : Nat), closure := [], defaults := Value.none, kwdefaults := Value.none, pyModule := Value.str (Str.ofString "pipeboard.shell") (259 : Nat), code := Value.ref (191 : Nat) } }) ::
      (nat_lit 193, { cls := Value.type "tuple", data := Data.seq #[] }) ::
      (nat_lit 195, { cls := Value.type "tuple", data := Data.seq #[Value.str (Str.ofString "self") (460 : Nat)] }) ::
      (nat_lit 196, { cls := Value.type "tuple", data := Data.seq #[] }) ::
      (nat_lit 198, { cls := Value.type "code", data := Data.fields #[Value.str (Str.ofString "is_word") (457 : Nat), Value.str (Str.ofString "Scanner.is_word") (458 : Nat), Value.str (Str.ofString "/claim/cut.py") (459 : Nat), Value.int (72 : Int) (0 : Nat), Value.int (1 : Int) (0 : Nat), Value.int (0 : Int) (0 : Nat), Value.int (0 : Int) (0 : Nat), Value.int (3 : Int) (0 : Nat), Value.ref (193 : Nat), Value.bool Bool.true, Value.int (181 : Int) (0 : Nat), Value.ref (194 : Nat), Value.none, Value.ref (195 : Nat), Value.ref (196 : Nat), Value.ref (197 : Nat), Value.int (461 : Int) (0 : Nat), Value.int (72 : Int) (0 : Nat), Value.str (Str.ofString "/claim/cut.py") (462 : Nat)] }) ::
      (nat_lit 199, { cls := Value.type "function", data := Data.func { name := Str.ofString "is_word", qualname := Str.ofString "Scanner.is_word", params := pa199, body := FuncBody.stmts bo199, scope := sc199, globals := (3 : Nat), closure := [], defaults := Value.none, kwdefaults := Value.none, pyModule := Value.str (Str.ofString "pipeboard.shell") (259 : Nat), code := Value.ref (198 : Nat) } }) ::
      (nat_lit 200, { cls := Value.type "tuple", data := Data.seq #[] }) ::
      (nat_lit 202, { cls := Value.type "tuple", data := Data.seq #[Value.str (Str.ofString "self") (467 : Nat), Value.str (Str.ofString "begin") (468 : Nat)] }) ::
      (nat_lit 203, { cls := Value.type "tuple", data := Data.seq #[] }) ::
      (nat_lit 205, { cls := Value.type "code", data := Data.fields #[Value.str (Str.ofString "word") (464 : Nat), Value.str (Str.ofString "Scanner.word") (465 : Nat), Value.str (Str.ofString "/claim/cut.py") (466 : Nat), Value.int (75 : Int) (0 : Nat), Value.int (1 : Int) (0 : Nat), Value.int (0 : Int) (0 : Nat), Value.int (0 : Int) (0 : Nat), Value.int (3 : Int) (0 : Nat), Value.ref (200 : Nat), Value.bool Bool.true, Value.int (181 : Int) (0 : Nat), Value.ref (201 : Nat), Value.none, Value.ref (202 : Nat), Value.ref (203 : Nat), Value.ref (204 : Nat), Value.int (469 : Int) (0 : Nat), Value.int (75 : Int) (0 : Nat), Value.str (Str.ofString "/claim/cut.py") (470 : Nat)] }) ::
      (nat_lit 206, { cls := Value.type "function", data := Data.func { name := Str.ofString "word", qualname := Str.ofString "Scanner.word", params := pa206, body := FuncBody.stmts bo206, scope := sc206, globals := (3 : Nat), closure := [], defaults := Value.none, kwdefaults := Value.none, pyModule := Value.str (Str.ofString "pipeboard.shell") (259 : Nat), code := Value.ref (205 : Nat) } }) ::
      (nat_lit 207, { cls := Value.type "tuple", data := Data.seq #[Value.str (Str.ofString "line") (472 : Nat), Value.str (Str.ofString "place") (473 : Nat)] }) ::
      (nat_lit 208, { cls := Value.type "dict", data := Data.dict #[{ hash := PyData.keyHash P (Str.ofString "__module__"), key := Value.str (Str.ofString "__module__") (414 : Nat), val := Value.str (Str.ofString "pipeboard.shell") (259 : Nat) }, { hash := PyData.keyHash P (Str.ofString "__firstlineno__"), key := Value.str (Str.ofString "__firstlineno__") (418 : Nat), val := Value.int (46 : Int) (417 : Nat) }, { hash := PyData.keyHash P (Str.ofString "__init__"), key := Value.str (Str.ofString "__init__") (426 : Nat), val := Value.ref (164 : Nat) }, { hash := PyData.keyHash P (Str.ofString "blanks"), key := Value.str (Str.ofString "blanks") (433 : Nat), val := Value.ref (171 : Nat) }, { hash := PyData.keyHash P (Str.ofString "next_is"), key := Value.str (Str.ofString "next_is") (441 : Nat), val := Value.ref (178 : Nat) }, { hash := PyData.keyHash P (Str.ofString "at_end"), key := Value.str (Str.ofString "at_end") (448 : Nat), val := Value.ref (185 : Nat) }, { hash := PyData.keyHash P (Str.ofString "sign"), key := Value.str (Str.ofString "sign") (456 : Nat), val := Value.ref (192 : Nat) }, { hash := PyData.keyHash P (Str.ofString "is_word"), key := Value.str (Str.ofString "is_word") (463 : Nat), val := Value.ref (199 : Nat) }, { hash := PyData.keyHash P (Str.ofString "word"), key := Value.str (Str.ofString "word") (471 : Nat), val := Value.ref (206 : Nat) }, { hash := PyData.keyHash P (Str.ofString "__static_attributes__"), key := Value.str (Str.ofString "__static_attributes__") (474 : Nat), val := Value.ref (207 : Nat) }, { hash := PyData.keyHash P (Str.ofString "__dict__"), key := Value.str (Str.ofString "__dict__") (476 : Nat), val := Value.ref (210 : Nat) }, { hash := PyData.keyHash P (Str.ofString "__weakref__"), key := Value.str (Str.ofString "__weakref__") (478 : Nat), val := Value.ref (211 : Nat) }, { hash := PyData.keyHash P (Str.ofString "__doc__"), key := Value.str (Str.ofString "__doc__") (479 : Nat), val := Value.none }] (4 : Nat) }) ::
      (nat_lit 209, { cls := Value.type "type", data := Data.cls { name := Str.ofString "Scanner", bases := [Value.type "object"], mro := [Value.ref (209 : Nat), Value.type "object"], ns := (208 : Nat), qualname := Str.ofString "Scanner" }, slots := #[Option.none, Option.none, Option.some (Value.str (Str.ofString "Scanner") (407 : Nat)), Option.some (Value.str (Str.ofString "Scanner") (415 : Nat)), Option.some (Value.builtin "object.__new__"), Option.some (Value.bool Bool.true)] }) ::
      (nat_lit 210, { cls := Value.type "getset_descriptor", data := Data.fields #[Value.str (Str.ofString "__dict__") (475 : Nat), Value.ref (209 : Nat), Value.builtin "function.__dict__", Value.builtin "function.__dict__#set"] }) ::
      (nat_lit 211, { cls := Value.type "getset_descriptor", data := Data.fields #[Value.str (Str.ofString "__weakref__") (477 : Nat), Value.ref (209 : Nat), Value.builtin "ExceptionGroup.__weakref__", Value.none] }) ::
      (nat_lit 214, { cls := Value.type "tuple", data := Data.seq #[] }) ::
      (nat_lit 216, { cls := Value.type "tuple", data := Data.seq #[Value.str (Str.ofString "reason") (485 : Nat)] }) ::
      (nat_lit 217, { cls := Value.type "tuple", data := Data.seq #[] }) ::
      (nat_lit 219, { cls := Value.type "code", data := Data.fields #[Value.str (Str.ofString "fault") (482 : Nat), Value.str (Str.ofString "fault") (483 : Nat), Value.str (Str.ofString "/claim/cut.py") (484 : Nat), Value.int (81 : Int) (0 : Nat), Value.int (1 : Int) (0 : Nat), Value.int (0 : Int) (0 : Nat), Value.int (0 : Int) (0 : Nat), Value.int (3 : Int) (0 : Nat), Value.ref (214 : Nat), Value.bool Bool.true, Value.int (181 : Int) (0 : Nat), Value.ref (215 : Nat), Value.none, Value.ref (216 : Nat), Value.ref (217 : Nat), Value.ref (218 : Nat), Value.int (486 : Int) (0 : Nat), Value.int (81 : Int) (0 : Nat), Value.str (Str.ofString "/claim/cut.py") (487 : Nat)] }) ::
      (nat_lit 220, { cls := Value.type "function", data := Data.func { name := Str.ofString "fault", qualname := Str.ofString "fault", params := pa220, body := FuncBody.stmts bo220, scope := sc220, globals := (3 : Nat), closure := [], defaults := Value.none, kwdefaults := Value.none, pyModule := Value.str (Str.ofString "pipeboard.shell") (259 : Nat), code := Value.ref (219 : Nat) } }) ::
      (nat_lit 221, { cls := Value.type "tuple", data := Data.seq #[] }) ::
      (nat_lit 223, { cls := Value.type "tuple", data := Data.seq #[Value.str (Str.ofString "line") (492 : Nat), Value.str (Str.ofString "scanner") (493 : Nat), Value.str (Str.ofString "found") (494 : Nat)] }) ::
      (nat_lit 224, { cls := Value.type "tuple", data := Data.seq #[] }) ::
      (nat_lit 226, { cls := Value.type "code", data := Data.fields #[Value.str (Str.ofString "parse") (489 : Nat), Value.str (Str.ofString "parse") (490 : Nat), Value.str (Str.ofString "/claim/cut.py") (491 : Nat), Value.int (83 : Int) (0 : Nat), Value.int (1 : Int) (0 : Nat), Value.int (0 : Int) (0 : Nat), Value.int (0 : Int) (0 : Nat), Value.int (3 : Int) (0 : Nat), Value.ref (221 : Nat), Value.bool Bool.true, Value.int (181 : Int) (0 : Nat), Value.ref (222 : Nat), Value.none, Value.ref (223 : Nat), Value.ref (224 : Nat), Value.ref (225 : Nat), Value.int (495 : Int) (0 : Nat), Value.int (83 : Int) (0 : Nat), Value.str (Str.ofString "/claim/cut.py") (496 : Nat)] }) ::
      (nat_lit 227, { cls := Value.type "function", data := Data.func { name := Str.ofString "parse", qualname := Str.ofString "parse", params := pa227, body := FuncBody.stmts bo227, scope := sc227, globals := (3 : Nat), closure := [], defaults := Value.none, kwdefaults := Value.none, pyModule := Value.str (Str.ofString "pipeboard.shell") (259 : Nat), code := Value.ref (226 : Nat) } }) ::
      (nat_lit 228, { cls := Value.type "tuple", data := Data.seq #[] }) ::
      (nat_lit 230, { cls := Value.type "tuple", data := Data.seq #[Value.str (Str.ofString "scanner") (501 : Nat), Value.str (Str.ofString "found") (502 : Nat)] }) ::
      (nat_lit 231, { cls := Value.type "tuple", data := Data.seq #[] }) ::
      (nat_lit 233, { cls := Value.type "code", data := Data.fields #[Value.str (Str.ofString "parse_line") (498 : Nat), Value.str (Str.ofString "parse_line") (499 : Nat), Value.str (Str.ofString "/claim/cut.py") (500 : Nat), Value.int (91 : Int) (0 : Nat), Value.int (1 : Int) (0 : Nat), Value.int (0 : Int) (0 : Nat), Value.int (0 : Int) (0 : Nat), Value.int (3 : Int) (0 : Nat), Value.ref (228 : Nat), Value.bool Bool.true, Value.int (181 : Int) (0 : Nat), Value.ref (229 : Nat), Value.none, Value.ref (230 : Nat), Value.ref (231 : Nat), Value.ref (232 : Nat), Value.int (503 : Int) (0 : Nat), Value.int (91 : Int) (0 : Nat), Value.str (Str.ofString "/claim/cut.py") (504 : Nat)] }) ::
      (nat_lit 234, { cls := Value.type "function", data := Data.func { name := Str.ofString "parse_line", qualname := Str.ofString "parse_line", params := pa234, body := FuncBody.stmts bo234, scope := sc234, globals := (3 : Nat), closure := [], defaults := Value.none, kwdefaults := Value.none, pyModule := Value.str (Str.ofString "pipeboard.shell") (259 : Nat), code := Value.ref (233 : Nat) } }) ::
      (nat_lit 235, { cls := Value.type "tuple", data := Data.seq #[] }) ::
      (nat_lit 237, { cls := Value.type "tuple", data := Data.seq #[Value.str (Str.ofString "scanner") (509 : Nat), Value.str (Str.ofString "found") (510 : Nat)] }) ::
      (nat_lit 238, { cls := Value.type "tuple", data := Data.seq #[] }) ::
      (nat_lit 240, { cls := Value.type "code", data := Data.fields #[Value.str (Str.ofString "parse_pipe") (506 : Nat), Value.str (Str.ofString "parse_pipe") (507 : Nat), Value.str (Str.ofString "/claim/cut.py") (508 : Nat), Value.int (100 : Int) (0 : Nat), Value.int (1 : Int) (0 : Nat), Value.int (0 : Int) (0 : Nat), Value.int (0 : Int) (0 : Nat), Value.int (3 : Int) (0 : Nat), Value.ref (235 : Nat), Value.bool Bool.true, Value.int (181 : Int) (0 : Nat), Value.ref (236 : Nat), Value.none, Value.ref (237 : Nat), Value.ref (238 : Nat), Value.ref (239 : Nat), Value.int (511 : Int) (0 : Nat), Value.int (100 : Int) (0 : Nat), Value.str (Str.ofString "/claim/cut.py") (512 : Nat)] }) ::
      (nat_lit 241, { cls := Value.type "function", data := Data.func { name := Str.ofString "parse_pipe", qualname := Str.ofString "parse_pipe", params := pa241, body := FuncBody.stmts bo241, scope := sc241, globals := (3 : Nat), closure := [], defaults := Value.none, kwdefaults := Value.none, pyModule := Value.str (Str.ofString "pipeboard.shell") (259 : Nat), code := Value.ref (240 : Nat) } }) ::
      (nat_lit 242, { cls := Value.type "tuple", data := Data.seq #[] }) ::
      (nat_lit 244, { cls := Value.type "tuple", data := Data.seq #[Value.str (Str.ofString "scanner") (517 : Nat), Value.str (Str.ofString "command") (518 : Nat), Value.str (Str.ofString "sign") (519 : Nat), Value.str (Str.ofString "path") (520 : Nat)] }) ::
      (nat_lit 245, { cls := Value.type "tuple", data := Data.seq #[] }) ::
      (nat_lit 247, { cls := Value.type "code", data := Data.fields #[Value.str (Str.ofString "parse_redirects") (514 : Nat), Value.str (Str.ofString "parse_redirects") (515 : Nat), Value.str (Str.ofString "/claim/cut.py") (516 : Nat), Value.int (106 : Int) (0 : Nat), Value.int (2 : Int) (0 : Nat), Value.int (0 : Int) (0 : Nat), Value.int (0 : Int) (0 : Nat), Value.int (3 : Int) (0 : Nat), Value.ref (242 : Nat), Value.bool Bool.true, Value.int (181 : Int) (0 : Nat), Value.ref (243 : Nat), Value.none, Value.ref (244 : Nat), Value.ref (245 : Nat), Value.ref (246 : Nat), Value.int (521 : Int) (0 : Nat), Value.int (106 : Int) (0 : Nat), Value.str (Str.ofString "/claim/cut.py") (522 : Nat)] }) ::
      (nat_lit 248, { cls := Value.type "function", data := Data.func { name := Str.ofString "parse_redirects", qualname := Str.ofString "parse_redirects", params := pa248, body := FuncBody.stmts bo248, scope := sc248, globals := (3 : Nat), closure := [], defaults := Value.none, kwdefaults := Value.none, pyModule := Value.str (Str.ofString "pipeboard.shell") (259 : Nat), code := Value.ref (247 : Nat) } }) ::
      (nat_lit 249, { cls := Value.type "tuple", data := Data.seq #[] }) ::
      (nat_lit 251, { cls := Value.type "tuple", data := Data.seq #[Value.str (Str.ofString "scanner") (527 : Nat), Value.str (Str.ofString "found") (528 : Nat)] }) ::
      (nat_lit 252, { cls := Value.type "tuple", data := Data.seq #[] }) ::
      (nat_lit 254, { cls := Value.type "code", data := Data.fields #[Value.str (Str.ofString "parse_block") (524 : Nat), Value.str (Str.ofString "parse_block") (525 : Nat), Value.str (Str.ofString "/claim/cut.py") (526 : Nat), Value.int (119 : Int) (0 : Nat), Value.int (1 : Int) (0 : Nat), Value.int (0 : Int) (0 : Nat), Value.int (0 : Int) (0 : Nat), Value.int (3 : Int) (0 : Nat), Value.ref (249 : Nat), Value.bool Bool.true, Value.int (181 : Int) (0 : Nat), Value.ref (250 : Nat), Value.none, Value.ref (251 : Nat), Value.ref (252 : Nat), Value.ref (253 : Nat), Value.int (529 : Int) (0 : Nat), Value.int (119 : Int) (0 : Nat), Value.str (Str.ofString "/claim/cut.py") (530 : Nat)] }) ::
      (nat_lit 255, { cls := Value.type "function", data := Data.func { name := Str.ofString "parse_block", qualname := Str.ofString "parse_block", params := pa255, body := FuncBody.stmts bo255, scope := sc255, globals := (3 : Nat), closure := [], defaults := Value.none, kwdefaults := Value.none, pyModule := Value.str (Str.ofString "pipeboard.shell") (259 : Nat), code := Value.ref (254 : Nat) } }) ::
      (nat_lit 256, { cls := Value.type "tuple", data := Data.seq #[] }) ::
      (nat_lit 258, { cls := Value.type "tuple", data := Data.seq #[Value.str (Str.ofString "scanner") (535 : Nat), Value.str (Str.ofString "program") (536 : Nat), Value.str (Str.ofString "found") (537 : Nat)] }) ::
      (nat_lit 259, { cls := Value.type "tuple", data := Data.seq #[] }) ::
      (nat_lit 261, { cls := Value.type "code", data := Data.fields #[Value.str (Str.ofString "parse_command") (532 : Nat), Value.str (Str.ofString "parse_command") (533 : Nat), Value.str (Str.ofString "/claim/cut.py") (534 : Nat), Value.int (126 : Int) (0 : Nat), Value.int (1 : Int) (0 : Nat), Value.int (0 : Int) (0 : Nat), Value.int (0 : Int) (0 : Nat), Value.int (3 : Int) (0 : Nat), Value.ref (256 : Nat), Value.bool Bool.true, Value.int (181 : Int) (0 : Nat), Value.ref (257 : Nat), Value.none, Value.ref (258 : Nat), Value.ref (259 : Nat), Value.ref (260 : Nat), Value.int (538 : Int) (0 : Nat), Value.int (126 : Int) (0 : Nat), Value.str (Str.ofString "/claim/cut.py") (539 : Nat)] }) ::
      (nat_lit 262, { cls := Value.type "function", data := Data.func { name := Str.ofString "parse_command", qualname := Str.ofString "parse_command", params := pa262, body := FuncBody.stmts bo262, scope := sc262, globals := (3 : Nat), closure := [], defaults := Value.none, kwdefaults := Value.none, pyModule := Value.str (Str.ofString "pipeboard.shell") (259 : Nat), code := Value.ref (261 : Nat) } }) ::
      (nat_lit 263, { cls := Value.type "tuple", data := Data.seq #[] }) ::
      (nat_lit 265, { cls := Value.type "tuple", data := Data.seq #[Value.str (Str.ofString "tree") (544 : Nat), Value.str (Str.ofString "sign") (545 : Nat), Value.str (Str.ofString "left") (546 : Nat)] }) ::
      (nat_lit 266, { cls := Value.type "tuple", data := Data.seq #[] }) ::
      (nat_lit 268, { cls := Value.type "code", data := Data.fields #[Value.str (Str.ofString "text_of") (541 : Nat), Value.str (Str.ofString "text_of") (542 : Nat), Value.str (Str.ofString "/claim/cut.py") (543 : Nat), Value.int (139 : Int) (0 : Nat), Value.int (1 : Int) (0 : Nat), Value.int (0 : Int) (0 : Nat), Value.int (0 : Int) (0 : Nat), Value.int (3 : Int) (0 : Nat), Value.ref (263 : Nat), Value.bool Bool.true, Value.int (181 : Int) (0 : Nat), Value.ref (264 : Nat), Value.none, Value.ref (265 : Nat), Value.ref (266 : Nat), Value.ref (267 : Nat), Value.int (547 : Int) (0 : Nat), Value.int (139 : Int) (0 : Nat), Value.str (Str.ofString "/claim/cut.py") (548 : Nat)] }) ::
      (nat_lit 269, { cls := Value.type "function", data := Data.func { name := Str.ofString "text_of", qualname := Str.ofString "text_of", params := pa269, body := FuncBody.stmts bo269, scope := sc269, globals := (3 : Nat), closure := [], defaults := Value.none, kwdefaults := Value.none, pyModule := Value.str (Str.ofString "pipeboard.shell") (259 : Nat), code := Value.ref (268 : Nat) } }) ::
      (nat_lit 270, { cls := Value.type "tuple", data := Data.seq #[] }) ::
      (nat_lit 272, { cls := Value.type "tuple", data := Data.seq #[Value.str (Str.ofString "tree") (553 : Nat)] }) ::
      (nat_lit 273, { cls := Value.type "tuple", data := Data.seq #[] }) ::
      (nat_lit 275, { cls := Value.type "code", data := Data.fields #[Value.str (Str.ofString "grouped") (550 : Nat), Value.str (Str.ofString "grouped") (551 : Nat), Value.str (Str.ofString "/claim/cut.py") (552 : Nat), Value.int (151 : Int) (0 : Nat), Value.int (1 : Int) (0 : Nat), Value.int (0 : Int) (0 : Nat), Value.int (0 : Int) (0 : Nat), Value.int (3 : Int) (0 : Nat), Value.ref (270 : Nat), Value.bool Bool.true, Value.int (181 : Int) (0 : Nat), Value.ref (271 : Nat), Value.none, Value.ref (272 : Nat), Value.ref (273 : Nat), Value.ref (274 : Nat), Value.int (554 : Int) (0 : Nat), Value.int (151 : Int) (0 : Nat), Value.str (Str.ofString "/claim/cut.py") (555 : Nat)] }) ::
      (nat_lit 276, { cls := Value.type "function", data := Data.func { name := Str.ofString "grouped", qualname := Str.ofString "grouped", params := pa276, body := FuncBody.stmts bo276, scope := sc276, globals := (3 : Nat), closure := [], defaults := Value.none, kwdefaults := Value.none, pyModule := Value.str (Str.ofString "pipeboard.shell") (259 : Nat), code := Value.ref (275 : Nat) } }) ::
      (nat_lit 277, { cls := Value.type "tuple", data := Data.seq #[] }) ::
      (nat_lit 279, { cls := Value.type "tuple", data := Data.seq #[Value.str (Str.ofString "tree") (560 : Nat)] }) ::
      (nat_lit 280, { cls := Value.type "tuple", data := Data.seq #[] }) ::
      (nat_lit 282, { cls := Value.type "code", data := Data.fields #[Value.str (Str.ofString "piped") (557 : Nat), Value.str (Str.ofString "piped") (558 : Nat), Value.str (Str.ofString "/claim/cut.py") (559 : Nat), Value.int (153 : Int) (0 : Nat), Value.int (1 : Int) (0 : Nat), Value.int (0 : Int) (0 : Nat), Value.int (0 : Int) (0 : Nat), Value.int (3 : Int) (0 : Nat), Value.ref (277 : Nat), Value.bool Bool.true, Value.int (181 : Int) (0 : Nat), Value.ref (278 : Nat), Value.none, Value.ref (279 : Nat), Value.ref (280 : Nat), Value.ref (281 : Nat), Value.int (561 : Int) (0 : Nat), Value.int (153 : Int) (0 : Nat), Value.str (Str.ofString "/claim/cut.py") (562 : Nat)] }) ::
      (nat_lit 283, { cls := Value.type "function", data := Data.func { name := Str.ofString "piped", qualname := Str.ofString "piped", params := pa283, body := FuncBody.stmts bo283, scope := sc283, globals := (3 : Nat), closure := [], defaults := Value.none, kwdefaults := Value.none, pyModule := Value.str (Str.ofString "pipeboard.shell") (259 : Nat), code := Value.ref (282 : Nat) } }) ::
      (nat_lit 284, { cls := Value.type "tuple", data := Data.seq #[] }) ::
      (nat_lit 286, { cls := Value.type "tuple", data := Data.seq #[Value.str (Str.ofString "script") (569 : Nat), Value.str (Str.ofString "whole") (570 : Nat), Value.str (Str.ofString "cell") (571 : Nat)] }) ::
      (nat_lit 287, { cls := Value.type "tuple", data := Data.seq #[] }) ::
      (nat_lit 289, { cls := Value.type "code", data := Data.fields #[Value.str (Str.ofString "_law_pool") (566 : Nat), Value.str (Str.ofString "_law_pool") (567 : Nat), Value.str (Str.ofString "/claim/cut.py") (568 : Nat), Value.int (158 : Int) (0 : Nat), Value.int (1 : Int) (0 : Nat), Value.int (0 : Int) (0 : Nat), Value.int (0 : Int) (0 : Nat), Value.int (3 : Int) (0 : Nat), Value.ref (284 : Nat), Value.bool Bool.true, Value.int (181 : Int) (0 : Nat), Value.ref (285 : Nat), Value.none, Value.ref (286 : Nat), Value.ref (287 : Nat), Value.ref (288 : Nat), Value.int (572 : Int) (0 : Nat), Value.int (158 : Int) (0 : Nat), Value.str (Str.ofString "/claim/cut.py") (573 : Nat)] }) ::
      (nat_lit 290, { cls := Value.type "function", data := Data.func { name := Str.ofString "_law_pool", qualname := Str.ofString "_law_pool", params := pa290, body := FuncBody.stmts bo290, scope := sc290, globals := (3 : Nat), closure := [], defaults := Value.none, kwdefaults := Value.none, pyModule := Value.str (Str.ofString "law_nz0214_01") (564 : Nat), code := Value.ref (289 : Nat) } }) ::
      (nat_lit 291, { cls := Value.type "tuple", data := Data.seq #[] }) ::
      (nat_lit 293, { cls := Value.type "tuple", data := Data.seq #[Value.str (Str.ofString "pool") (578 : Nat), Value.str (Str.ofString "many") (579 : Nat), Value.str (Str.ofString "digit") (580 : Nat)] }) ::
      (nat_lit 294, { cls := Value.type "tuple", data := Data.seq #[] }) ::
      (nat_lit 296, { cls := Value.type "code", data := Data.fields #[Value.str (Str.ofString "_law_take") (575 : Nat), Value.str (Str.ofString "_law_take") (576 : Nat), Value.str (Str.ofString "/claim/cut.py") (577 : Nat), Value.int (163 : Int) (0 : Nat), Value.int (2 : Int) (0 : Nat), Value.int (0 : Int) (0 : Nat), Value.int (0 : Int) (0 : Nat), Value.int (3 : Int) (0 : Nat), Value.ref (291 : Nat), Value.bool Bool.true, Value.int (181 : Int) (0 : Nat), Value.ref (292 : Nat), Value.none, Value.ref (293 : Nat), Value.ref (294 : Nat), Value.ref (295 : Nat), Value.int (581 : Int) (0 : Nat), Value.int (163 : Int) (0 : Nat), Value.str (Str.ofString "/claim/cut.py") (582 : Nat)] }) ::
      (nat_lit 297, { cls := Value.type "function", data := Data.func { name := Str.ofString "_law_take", qualname := Str.ofString "_law_take", params := pa297, body := FuncBody.stmts bo297, scope := sc297, globals := (3 : Nat), closure := [], defaults := Value.none, kwdefaults := Value.none, pyModule := Value.str (Str.ofString "law_nz0214_01") (564 : Nat), code := Value.ref (296 : Nat) } }) ::
      (nat_lit 298, { cls := Value.type "tuple", data := Data.seq #[] }) ::
      (nat_lit 301, { cls := Value.type "code", data := Data.fields #[Value.str (Str.ofString "_law_made") (584 : Nat), Value.str (Str.ofString "_law_made") (585 : Nat), Value.str (Str.ofString "/claim/cut.py") (586 : Nat), Value.int (170 : Int) (0 : Nat), Value.int (2 : Int) (0 : Nat), Value.int (0 : Int) (0 : Nat), Value.int (0 : Int) (0 : Nat), Value.int (3 : Int) (0 : Nat), Value.ref (298 : Nat), Value.bool Bool.true, Value.int (181 : Int) (0 : Nat), Value.ref (299 : Nat), Value.none, Value.none, Value.none, Value.ref (300 : Nat), Value.int (587 : Int) (0 : Nat), Value.int (170 : Int) (0 : Nat), Value.str (Str.ofString "/claim/cut.py") (588 : Nat)] }) ::
      (nat_lit 302, { cls := Value.type "function", data := Data.func { name := Str.ofString "_law_made", qualname := Str.ofString "_law_made", params := pa302, body := FuncBody.stmts bo302, scope := sc302, globals := (3 : Nat), closure := [], defaults := Value.none, kwdefaults := Value.none, pyModule := Value.str (Str.ofString "law_nz0214_01") (564 : Nat), code := Value.ref (301 : Nat) } }) ::
      (nat_lit 303, { cls := Value.type "tuple", data := Data.seq #[] }) ::
      (nat_lit 305, { cls := Value.type "tuple", data := Data.seq #[Value.str (Str.ofString "tree") (593 : Nat)] }) ::
      (nat_lit 306, { cls := Value.type "tuple", data := Data.seq #[] }) ::
      (nat_lit 308, { cls := Value.type "code", data := Data.fields #[Value.str (Str.ofString "_law_shape") (590 : Nat), Value.str (Str.ofString "_law_shape") (591 : Nat), Value.str (Str.ofString "/claim/cut.py") (592 : Nat), Value.int (185 : Int) (0 : Nat), Value.int (1 : Int) (0 : Nat), Value.int (0 : Int) (0 : Nat), Value.int (0 : Int) (0 : Nat), Value.int (3 : Int) (0 : Nat), Value.ref (303 : Nat), Value.bool Bool.true, Value.int (181 : Int) (0 : Nat), Value.ref (304 : Nat), Value.none, Value.ref (305 : Nat), Value.ref (306 : Nat), Value.ref (307 : Nat), Value.int (594 : Int) (0 : Nat), Value.int (185 : Int) (0 : Nat), Value.str (Str.ofString "/claim/cut.py") (595 : Nat)] }) ::
      (nat_lit 309, { cls := Value.type "function", data := Data.func { name := Str.ofString "_law_shape", qualname := Str.ofString "_law_shape", params := pa309, body := FuncBody.stmts bo309, scope := sc309, globals := (3 : Nat), closure := [], defaults := Value.none, kwdefaults := Value.none, pyModule := Value.str (Str.ofString "law_nz0214_01") (564 : Nat), code := Value.ref (308 : Nat) } }) ::
      (nat_lit 310, { cls := Value.type "tuple", data := Data.seq #[] }) ::
      (nat_lit 312, { cls := Value.type "tuple", data := Data.seq #[Value.str (Str.ofString "tree") (600 : Nat), Value.str (Str.ofString "shape") (601 : Nat), Value.str (Str.ofString "line") (602 : Nat), Value.str (Str.ofString "found") (603 : Nat)] }) ::
      (nat_lit 313, { cls := Value.type "tuple", data := Data.seq #[] }) ::
      (nat_lit 315, { cls := Value.type "code", data := Data.fields #[Value.str (Str.ofString "_law_right") (597 : Nat), Value.str (Str.ofString "_law_right") (598 : Nat), Value.str (Str.ofString "/claim/cut.py") (599 : Nat), Value.int (193 : Int) (0 : Nat), Value.int (2 : Int) (0 : Nat), Value.int (0 : Int) (0 : Nat), Value.int (0 : Int) (0 : Nat), Value.int (3 : Int) (0 : Nat), Value.ref (310 : Nat), Value.bool Bool.true, Value.int (181 : Int) (0 : Nat), Value.ref (311 : Nat), Value.none, Value.ref (312 : Nat), Value.ref (313 : Nat), Value.ref (314 : Nat), Value.int (604 : Int) (0 : Nat), Value.int (193 : Int) (0 : Nat), Value.str (Str.ofString "/claim/cut.py") (605 : Nat)] }) ::
      (nat_lit 316, { cls := Value.type "function", data := Data.func { name := Str.ofString "_law_right", qualname := Str.ofString "_law_right", params := pa316, body := FuncBody.stmts bo316, scope := sc316, globals := (3 : Nat), closure := [], defaults := Value.none, kwdefaults := Value.none, pyModule := Value.str (Str.ofString "law_nz0214_01") (564 : Nat), code := Value.ref (315 : Nat) } }) ::
      (nat_lit 317, { cls := Value.type "tuple", data := Data.seq #[] }) ::
      (nat_lit 319, { cls := Value.type "tuple", data := Data.seq #[Value.str (Str.ofString "script") (610 : Nat), Value.str (Str.ofString "pool") (611 : Nat), Value.str (Str.ofString "fixed") (612 : Nat), Value.str (Str.ofString "due") (613 : Nat), Value.str (Str.ofString "turn") (614 : Nat), Value.str (Str.ofString "tree") (615 : Nat), Value.str (Str.ofString "shape") (616 : Nat)] }) ::
      (nat_lit 320, { cls := Value.type "tuple", data := Data.seq #[] }) ::
      (nat_lit 322, { cls := Value.type "code", data := Data.fields #[Value.str (Str.ofString "law") (607 : Nat), Value.str (Str.ofString "law") (608 : Nat), Value.str (Str.ofString "/claim/cut.py") (609 : Nat), Value.int (199 : Int) (0 : Nat), Value.int (1 : Int) (0 : Nat), Value.int (0 : Int) (0 : Nat), Value.int (0 : Int) (0 : Nat), Value.int (3 : Int) (0 : Nat), Value.ref (317 : Nat), Value.bool Bool.true, Value.int (181 : Int) (0 : Nat), Value.ref (318 : Nat), Value.none, Value.ref (319 : Nat), Value.ref (320 : Nat), Value.ref (321 : Nat), Value.int (617 : Int) (0 : Nat), Value.int (199 : Int) (0 : Nat), Value.str (Str.ofString "/claim/cut.py") (618 : Nat)] }) ::
      (nat_lit 323, { cls := Value.type "function", data := Data.func { name := Str.ofString "law", qualname := Str.ofString "law", params := pa323, body := FuncBody.stmts bo323, scope := sc323, globals := (3 : Nat), closure := [], defaults := Value.none, kwdefaults := Value.none, pyModule := Value.str (Str.ofString "law_nz0214_01") (564 : Nat), code := Value.ref (322 : Nat) } }) :: [] : List (Nat × Obj)))
    _ _ _ _ _ _ _ _ _ _ _ _ _ _ _ _ _ _ _ _ _ _ _ _ _ _ _ _ _ _ _ _ _ _ _ _ _ _ _ _ _ _ _ _ _ _ _ _ _ _ _ _ _ _ _ _ _ _ _ _ _ _ _ _ _ _ _ _ _ _ _ _ _ _ _ _ _ _ _ _ _ _ _ _ _ _ _
    rfl rfl rfl rfl rfl rfl rfl rfl rfl rfl rfl rfl rfl rfl rfl rfl rfl rfl rfl rfl rfl rfl rfl rfl rfl rfl rfl rfl rfl
noncomputable abbrev asK : List Addr := [2, 3, 15, 22, 23, 25, 26, 28, 29, 30, 31, 32, 33, 36, 43, 44, 45, 48, 55, 57, 58, 60, 61, 62, 63, 64, 74, 76, 77, 79, 80, 81, 82, 83, 84, 85, 95, 97, 98, 100, 101, 102, 103, 104, 105, 106, 116, 118, 119, 121, 122, 123, 124, 125, 126, 127, 137, 139, 140, 142, 143, 144, 145, 146, 147, 148, 158, 160, 161, 163, 164, 165, 167, 168, 170, 171, 172, 174, 175, 177, 178, 179, 181, 182, 184, 185, 186, 188, 189, 191, 192, 193, 195, 196, 198, 199, 200, 202, 203, 205, 206, 207, 208, 209, 210, 211, 214, 216, 217, 219, 220, 221, 223, 224, 226, 227, 228, 230, 231, 233, 234, 235, 237, 238, 240, 241, 242, 244, 245, 247, 248, 249, 251, 252, 254, 255, 256, 258, 259, 261, 262, 263, 265, 266, 268, 269, 270, 272, 273, 275, 276, 277, 279, 280, 282, 283, 284, 286, 287, 289, 290, 291, 293, 294, 296, 297, 298, 301, 302, 303, 305, 306, 308, 309, 310, 312, 313, 315, 316, 317, 319, 320, 322, 323]

noncomputable def q : Program := view PySem.Challenge.pw_nz0214_01 [1, 2, 3, 5, 6, 7, 8, 9, 10, 11, 12, 13, 14, 15, 16, 17, 18, 19, 20, 21, 22, 23, 24, 25, 26, 27, 28, 29, 31, 32, 33, 34, 35, 36]
-- the heap behind the top, object by object
noncomputable def kAt (P : Params) (a : Nat) : Obj := ((K P).lookup a).getD default
noncomputable def fnA (o : Option (Arguments × List Stmt × Scope)) : Arguments := (o.map fun x => x.1).getD default
noncomputable def fnB (o : Option (Arguments × List Stmt × Scope)) : List Stmt := (o.map fun x => x.2.1).getD []
noncomputable def fnS (o : Option (Arguments × List Stmt × Scope)) : Scope := (o.map fun x => x.2.2).getD default
noncomputable def fin (P : Params) : List Obj :=
  boot_o_0 P ::
  boot_o_1 P ::
  kAt P 2 ::
  kAt P 3 ::
  boot_o_4 P ::
  boot_o_5 P ::
  boot_o_6 P ::
  boot_o_7 P ::
  boot_o_8 P ::
  boot_o_9 P ::
  boot_o_10 P ::
  { cls := Value.type "tuple", data := Data.seq #[] } ::
  { cls := Value.none, data := Data.fields (List.toArray (Value.int (2 : Int) (0 : Nat) :: Value.int (0 : Int) (0 : Nat) :: Value.ref (20 : Nat) :: Value.int (7 : Int) (0 : Nat) :: Value.int (0 : Int) (0 : Nat) :: Value.ref (41 : Nat) :: Value.int (9 : Int) (0 : Nat) :: Value.int (0 : Int) (0 : Nat) :: Value.ref (53 : Nat) :: Value.int (25 : Int) (0 : Nat) :: Value.int (0 : Int) (0 : Nat) :: Value.ref (72 : Nat) :: Value.int (29 : Int) (0 : Nat) :: Value.int (0 : Int) (0 : Nat) :: Value.ref (93 : Nat) :: Value.int (36 : Int) (0 : Nat) :: Value.int (0 : Int) (0 : Nat) :: Value.ref (114 : Nat) :: Value.int (42 : Int) (0 : Nat) :: Value.int (0 : Int) (0 : Nat) :: Value.ref (135 : Nat) :: Value.int (46 : Int) (0 : Nat) :: Value.int (0 : Int) (0 : Nat) :: Value.ref (156 : Nat) :: Value.int (81 : Int) (0 : Nat) :: Value.int (0 : Int) (0 : Nat) :: Value.ref (219 : Nat) :: Value.int (83 : Int) (0 : Nat) :: Value.int (0 : Int) (0 : Nat) :: Value.ref (226 : Nat) :: Value.int (91 : Int) (0 : Nat) :: Value.int (0 : Int) (0 : Nat) :: Value.ref (233 : Nat) :: Value.int (100 : Int) (0 : Nat) :: Value.int (0 : Int) (0 : Nat) :: Value.ref (240 : Nat) :: Value.int (106 : Int) (0 : Nat) :: Value.int (0 : Int) (0 : Nat) :: Value.ref (247 : Nat) :: Value.int (119 : Int) (0 : Nat) :: Value.int (0 : Int) (0 : Nat) :: Value.ref (254 : Nat) :: Value.int (126 : Int) (0 : Nat) :: Value.int (0 : Int) (0 : Nat) :: Value.ref (261 : Nat) :: Value.int (139 : Int) (0 : Nat) :: Value.int (0 : Int) (0 : Nat) :: Value.ref (268 : Nat) :: Value.int (151 : Int) (0 : Nat) :: Value.int (0 : Int) (0 : Nat) :: Value.ref (275 : Nat) :: Value.int (153 : Int) (0 : Nat) :: Value.int (0 : Int) (0 : Nat) :: Value.ref (282 : Nat) :: Value.int (158 : Int) (0 : Nat) :: Value.int (0 : Int) (0 : Nat) :: Value.ref (289 : Nat) :: Value.int (163 : Int) (0 : Nat) :: Value.int (0 : Int) (0 : Nat) :: Value.ref (296 : Nat) :: Value.int (170 : Int) (0 : Nat) :: Value.int (0 : Int) (0 : Nat) :: Value.ref (301 : Nat) :: Value.int (185 : Int) (0 : Nat) :: Value.int (0 : Int) (0 : Nat) :: Value.ref (308 : Nat) :: Value.int (193 : Int) (0 : Nat) :: Value.int (0 : Int) (0 : Nat) :: Value.ref (315 : Nat) :: Value.int (199 : Int) (0 : Nat) :: Value.int (0 : Int) (0 : Nat) :: Value.ref (322 : Nat) :: [])) } ::
  { cls := Value.type "code", data := Data.fields #[Value.str (Str.ofString "<module>") (182 : Nat), Value.str (Str.ofString "<module>") (183 : Nat), Value.str (Str.ofString "/claim/cut.py") (184 : Nat), Value.int (1 : Int) (0 : Nat), Value.int (0 : Int) (0 : Nat), Value.int (0 : Int) (0 : Nat), Value.int (0 : Int) (0 : Nat), Value.int (0 : Int) (0 : Nat), Value.ref (11 : Nat), Value.bool Bool.false, Value.int (181 : Int) (0 : Nat), Value.ref (12 : Nat), Value.none, Value.none, Value.none, Value.none, Value.int (185 : Int) (0 : Nat), Value.int (1 : Int) (0 : Nat), Value.str (Str.ofString "/claim/cut.py") (186 : Nat)] } ::
  { cls := Value.type "frame", slots := #[Option.some (Value.ref (13 : Nat)), Option.some (Value.ref (3 : Nat)), Option.some (Value.ref (3 : Nat)), Option.none, Option.some (Value.str (Str.ofString "__main__") (164 : Nat)), Option.none, Option.some (Value.ref (0 : Nat))] } ::
  kAt P 15 ::
  { cls := Value.type "builtin_function_or_method", data := Data.fields #[Value.builtin "type.__prepare__", Value.type "type"] } ::
  { cls := Value.type "dict", data := Data.dict #[{ hash := PyData.keyHash P (Str.ofString "__module__"), key := Value.str (Str.ofString "__module__") (196 : Nat), val := Value.str (Str.ofString "pipeboard.errors") (187 : Nat) }, { hash := PyData.keyHash P (Str.ofString "__qualname__"), key := Value.str (Str.ofString "__qualname__") (198 : Nat), val := Value.str (Str.ofString "BoardError") (197 : Nat) }, { hash := PyData.keyHash P (Str.ofString "__firstlineno__"), key := Value.str (Str.ofString "__firstlineno__") (200 : Nat), val := Value.int (2 : Int) (199 : Nat) }, { hash := PyData.keyHash P (Str.ofString "__init__"), key := Value.str (Str.ofString "__init__") (209 : Nat), val := Value.ref (29 : Nat) }, { hash := PyData.keyHash P (Str.ofString "__static_attributes__"), key := Value.str (Str.ofString "__static_attributes__") (211 : Nat), val := Value.ref (30 : Nat) }] (5 : Nat) } ::
  { cls := Value.type "tuple", data := Data.seq #[] } ::
  { cls := Value.none, data := Data.fields #[Value.int (4 : Int) (0 : Nat), Value.int (4 : Int) (0 : Nat), Value.ref (28 : Nat)] } ::
  { cls := Value.type "code", data := Data.fields #[Value.str (Str.ofString "BoardError") (191 : Nat), Value.str (Str.ofString "BoardError") (192 : Nat), Value.str (Str.ofString "/claim/cut.py") (193 : Nat), Value.int (2 : Int) (0 : Nat), Value.int (0 : Int) (0 : Nat), Value.int (0 : Int) (0 : Nat), Value.int (0 : Int) (0 : Nat), Value.int (0 : Int) (0 : Nat), Value.ref (18 : Nat), Value.bool Bool.false, Value.int (181 : Int) (0 : Nat), Value.ref (19 : Nat), Value.none, Value.none, Value.none, Value.none, Value.int (194 : Int) (0 : Nat), Value.int (2 : Int) (0 : Nat), Value.str (Str.ofString "/claim/cut.py") (195 : Nat)] } ::
  { cls := Value.type "frame", slots := #[Option.some (Value.ref (20 : Nat)), Option.some (Value.ref (3 : Nat)), Option.some (Value.ref (17 : Nat)), Option.none, Option.some (Value.str (Str.ofString "pipeboard.errors") (187 : Nat)), Option.none, Option.some (Value.ref (0 : Nat))] } ::
  kAt P 22 ::
  kAt P 23 ::
  { cls := Value.none, data := Data.fields #[] } ::
  kAt P 25 ::
  kAt P 26 ::
  { cls := Value.none, data := Data.func { name := Str.ofString "__init__", qualname := Str.ofString "BoardError.__init__", params := (fnA (clsFn 1 0)), body := FuncBody.stmts (fnB (clsFn 1 0)), scope := (fnS (clsFn 1 0)), globals := (0 : Nat), closure := [], defaults := Value.none, kwdefaults := Value.none } } ::
  kAt P 28 ::
  kAt P 29 ::
  kAt P 30 ::
  kAt P 31 ::
  kAt P 32 ::
  kAt P 33 ::
  { cls := Value.type "super", data := Data.fields #[Value.ref (32 : Nat), Value.ref (32 : Nat), Value.ref (32 : Nat)] } ::
  { cls := Value.type "builtin_function_or_method", data := Data.fields #[Value.builtin "object.__init_subclass__", Value.ref (32 : Nat)] } ::
  kAt P 36 ::
  { cls := Value.type "builtin_function_or_method", data := Data.fields #[Value.builtin "type.__prepare__", Value.type "type"] } ::
  { cls := Value.type "dict", data := Data.dict #[{ hash := PyData.keyHash P (Str.ofString "__module__"), key := Value.str (Str.ofString "__module__") (224 : Nat), val := Value.str (Str.ofString "pipeboard.errors") (187 : Nat) }, { hash := PyData.keyHash P (Str.ofString "__qualname__"), key := Value.str (Str.ofString "__qualname__") (226 : Nat), val := Value.str (Str.ofString "BadArgument") (225 : Nat) }, { hash := PyData.keyHash P (Str.ofString "__firstlineno__"), key := Value.str (Str.ofString "__firstlineno__") (228 : Nat), val := Value.int (7 : Int) (227 : Nat) }, { hash := PyData.keyHash P (Str.ofString "__static_attributes__"), key := Value.str (Str.ofString "__static_attributes__") (229 : Nat), val := Value.ref (43 : Nat) }] (4 : Nat) } ::
  { cls := Value.type "tuple", data := Data.seq #[] } ::
  { cls := Value.none, data := Data.fields #[] } ::
  { cls := Value.type "code", data := Data.fields #[Value.str (Str.ofString "BadArgument") (219 : Nat), Value.str (Str.ofString "BadArgument") (220 : Nat), Value.str (Str.ofString "/claim/cut.py") (221 : Nat), Value.int (7 : Int) (0 : Nat), Value.int (0 : Int) (0 : Nat), Value.int (0 : Int) (0 : Nat), Value.int (0 : Int) (0 : Nat), Value.int (0 : Int) (0 : Nat), Value.ref (39 : Nat), Value.bool Bool.false, Value.int (181 : Int) (0 : Nat), Value.ref (40 : Nat), Value.none, Value.none, Value.none, Value.none, Value.int (222 : Int) (0 : Nat), Value.int (7 : Int) (0 : Nat), Value.str (Str.ofString "/claim/cut.py") (223 : Nat)] } ::
  { cls := Value.type "frame", slots := #[Option.some (Value.ref (41 : Nat)), Option.some (Value.ref (3 : Nat)), Option.some (Value.ref (38 : Nat)), Option.none, Option.some (Value.str (Str.ofString "pipeboard.errors") (187 : Nat)), Option.none, Option.some (Value.ref (0 : Nat))] } ::
  kAt P 43 ::
  kAt P 44 ::
  kAt P 45 ::
  { cls := Value.type "super", data := Data.fields #[Value.ref (45 : Nat), Value.ref (45 : Nat), Value.ref (45 : Nat)] } ::
  { cls := Value.type "builtin_function_or_method", data := Data.fields #[Value.builtin "object.__init_subclass__", Value.ref (45 : Nat)] } ::
  kAt P 48 ::
  { cls := Value.type "builtin_function_or_method", data := Data.fields #[Value.builtin "type.__prepare__", Value.type "type"] } ::
  { cls := Value.type "dict", data := Data.dict #[{ hash := PyData.keyHash P (Str.ofString "__module__"), key := Value.str (Str.ofString "__module__") (240 : Nat), val := Value.str (Str.ofString "pipeboard.errors") (187 : Nat) }, { hash := PyData.keyHash P (Str.ofString "__qualname__"), key := Value.str (Str.ofString "__qualname__") (242 : Nat), val := Value.str (Str.ofString "BadText") (241 : Nat) }, { hash := PyData.keyHash P (Str.ofString "__firstlineno__"), key := Value.str (Str.ofString "__firstlineno__") (244 : Nat), val := Value.int (9 : Int) (243 : Nat) }, { hash := PyData.keyHash P (Str.ofString "__init__"), key := Value.str (Str.ofString "__init__") (253 : Nat), val := Value.ref (61 : Nat) }, { hash := PyData.keyHash P (Str.ofString "__static_attributes__"), key := Value.str (Str.ofString "__static_attributes__") (255 : Nat), val := Value.ref (62 : Nat) }] (5 : Nat) } ::
  { cls := Value.type "tuple", data := Data.seq #[] } ::
  { cls := Value.none, data := Data.fields #[Value.int (11 : Int) (0 : Nat), Value.int (4 : Int) (0 : Nat), Value.ref (60 : Nat)] } ::
  { cls := Value.type "code", data := Data.fields #[Value.str (Str.ofString "BadText") (235 : Nat), Value.str (Str.ofString "BadText") (236 : Nat), Value.str (Str.ofString "/claim/cut.py") (237 : Nat), Value.int (9 : Int) (0 : Nat), Value.int (0 : Int) (0 : Nat), Value.int (0 : Int) (0 : Nat), Value.int (0 : Int) (0 : Nat), Value.int (0 : Int) (0 : Nat), Value.ref (51 : Nat), Value.bool Bool.false, Value.int (181 : Int) (0 : Nat), Value.ref (52 : Nat), Value.none, Value.none, Value.none, Value.none, Value.int (238 : Int) (0 : Nat), Value.int (9 : Int) (0 : Nat), Value.str (Str.ofString "/claim/cut.py") (239 : Nat)] } ::
  { cls := Value.type "frame", slots := #[Option.some (Value.ref (53 : Nat)), Option.some (Value.ref (3 : Nat)), Option.some (Value.ref (50 : Nat)), Option.none, Option.some (Value.str (Str.ofString "pipeboard.errors") (187 : Nat)), Option.none, Option.some (Value.ref (0 : Nat))] } ::
  kAt P 55 ::
  { cls := Value.none, data := Data.fields #[] } ::
  kAt P 57 ::
  kAt P 58 ::
  { cls := Value.none, data := Data.func { name := Str.ofString "__init__", qualname := Str.ofString "BadText.__init__", params := (fnA (clsFn 3 0)), body := FuncBody.stmts (fnB (clsFn 3 0)), scope := (fnS (clsFn 3 0)), globals := (0 : Nat), closure := [], defaults := Value.none, kwdefaults := Value.none } } ::
  kAt P 60 ::
  kAt P 61 ::
  kAt P 62 ::
  kAt P 63 ::
  kAt P 64 ::
  { cls := Value.type "super", data := Data.fields #[Value.ref (64 : Nat), Value.ref (64 : Nat), Value.ref (64 : Nat)] } ::
  { cls := Value.type "builtin_function_or_method", data := Data.fields #[Value.builtin "object.__init_subclass__", Value.ref (64 : Nat)] } ::
  { cls := Value.type "tuple", data := Data.seq #[] } ::
  { cls := Value.type "builtin_function_or_method", data := Data.fields #[Value.builtin "type.__prepare__", Value.type "type"] } ::
  { cls := Value.type "dict", data := Data.dict #[{ hash := PyData.keyHash P (Str.ofString "__module__"), key := Value.str (Str.ofString "__module__") (288 : Nat), val := Value.str (Str.ofString "pipeboard.shell") (259 : Nat) }, { hash := PyData.keyHash P (Str.ofString "__qualname__"), key := Value.str (Str.ofString "__qualname__") (290 : Nat), val := Value.str (Str.ofString "Run") (289 : Nat) }, { hash := PyData.keyHash P (Str.ofString "__firstlineno__"), key := Value.str (Str.ofString "__firstlineno__") (292 : Nat), val := Value.int (25 : Int) (291 : Nat) }, { hash := PyData.keyHash P (Str.ofString "__init__"), key := Value.str (Str.ofString "__init__") (300 : Nat), val := Value.ref (80 : Nat) }, { hash := PyData.keyHash P (Str.ofString "__static_attributes__"), key := Value.str (Str.ofString "__static_attributes__") (302 : Nat), val := Value.ref (81 : Nat) }] (5 : Nat) } ::
  { cls := Value.type "tuple", data := Data.seq #[] } ::
  { cls := Value.none, data := Data.fields #[Value.int (27 : Int) (0 : Nat), Value.int (4 : Int) (0 : Nat), Value.ref (79 : Nat)] } ::
  { cls := Value.type "code", data := Data.fields #[Value.str (Str.ofString "Run") (283 : Nat), Value.str (Str.ofString "Run") (284 : Nat), Value.str (Str.ofString "/claim/cut.py") (285 : Nat), Value.int (25 : Int) (0 : Nat), Value.int (0 : Int) (0 : Nat), Value.int (0 : Int) (0 : Nat), Value.int (0 : Int) (0 : Nat), Value.int (0 : Int) (0 : Nat), Value.ref (70 : Nat), Value.bool Bool.false, Value.int (181 : Int) (0 : Nat), Value.ref (71 : Nat), Value.none, Value.none, Value.none, Value.none, Value.int (286 : Int) (0 : Nat), Value.int (25 : Int) (0 : Nat), Value.str (Str.ofString "/claim/cut.py") (287 : Nat)] } ::
  { cls := Value.type "frame", slots := #[Option.some (Value.ref (72 : Nat)), Option.some (Value.ref (3 : Nat)), Option.some (Value.ref (69 : Nat)), Option.none, Option.some (Value.str (Str.ofString "pipeboard.shell") (259 : Nat)), Option.none, Option.some (Value.ref (0 : Nat))] } ::
  kAt P 74 ::
  { cls := Value.none, data := Data.fields #[] } ::
  kAt P 76 ::
  kAt P 77 ::
  { cls := Value.none, data := Data.func { name := Str.ofString "__init__", qualname := Str.ofString "Run.__init__", params := (fnA (clsFn 15 0)), body := FuncBody.stmts (fnB (clsFn 15 0)), scope := (fnS (clsFn 15 0)), globals := (0 : Nat), closure := [], defaults := Value.none, kwdefaults := Value.none } } ::
  kAt P 79 ::
  kAt P 80 ::
  kAt P 81 ::
  kAt P 82 ::
  kAt P 83 ::
  kAt P 84 ::
  kAt P 85 ::
  { cls := Value.type "super", data := Data.fields #[Value.ref (83 : Nat), Value.ref (83 : Nat), Value.ref (83 : Nat)] } ::
  { cls := Value.type "builtin_function_or_method", data := Data.fields #[Value.builtin "object.__init_subclass__", Value.ref (83 : Nat)] } ::
  { cls := Value.type "tuple", data := Data.seq #[] } ::
  { cls := Value.type "builtin_function_or_method", data := Data.fields #[Value.builtin "type.__prepare__", Value.type "type"] } ::
  { cls := Value.type "dict", data := Data.dict #[{ hash := PyData.keyHash P (Str.ofString "__module__"), key := Value.str (Str.ofString "__module__") (317 : Nat), val := Value.str (Str.ofString "pipeboard.shell") (259 : Nat) }, { hash := PyData.keyHash P (Str.ofString "__qualname__"), key := Value.str (Str.ofString "__qualname__") (319 : Nat), val := Value.str (Str.ofString "Redirect") (318 : Nat) }, { hash := PyData.keyHash P (Str.ofString "__firstlineno__"), key := Value.str (Str.ofString "__firstlineno__") (321 : Nat), val := Value.int (29 : Int) (320 : Nat) }, { hash := PyData.keyHash P (Str.ofString "__init__"), key := Value.str (Str.ofString "__init__") (332 : Nat), val := Value.ref (101 : Nat) }, { hash := PyData.keyHash P (Str.ofString "__static_attributes__"), key := Value.str (Str.ofString "__static_attributes__") (337 : Nat), val := Value.ref (102 : Nat) }] (5 : Nat) } ::
  { cls := Value.type "tuple", data := Data.seq #[] } ::
  { cls := Value.none, data := Data.fields #[Value.int (31 : Int) (0 : Nat), Value.int (4 : Int) (0 : Nat), Value.ref (100 : Nat)] } ::
  { cls := Value.type "code", data := Data.fields #[Value.str (Str.ofString "Redirect") (312 : Nat), Value.str (Str.ofString "Redirect") (313 : Nat), Value.str (Str.ofString "/claim/cut.py") (314 : Nat), Value.int (29 : Int) (0 : Nat), Value.int (0 : Int) (0 : Nat), Value.int (0 : Int) (0 : Nat), Value.int (0 : Int) (0 : Nat), Value.int (0 : Int) (0 : Nat), Value.ref (91 : Nat), Value.bool Bool.false, Value.int (181 : Int) (0 : Nat), Value.ref (92 : Nat), Value.none, Value.none, Value.none, Value.none, Value.int (315 : Int) (0 : Nat), Value.int (29 : Int) (0 : Nat), Value.str (Str.ofString "/claim/cut.py") (316 : Nat)] } ::
  { cls := Value.type "frame", slots := #[Option.some (Value.ref (93 : Nat)), Option.some (Value.ref (3 : Nat)), Option.some (Value.ref (90 : Nat)), Option.none, Option.some (Value.str (Str.ofString "pipeboard.shell") (259 : Nat)), Option.none, Option.some (Value.ref (0 : Nat))] } ::
  kAt P 95 ::
  { cls := Value.none, data := Data.fields #[] } ::
  kAt P 97 ::
  kAt P 98 ::
  { cls := Value.none, data := Data.func { name := Str.ofString "__init__", qualname := Str.ofString "Redirect.__init__", params := (fnA (clsFn 16 0)), body := FuncBody.stmts (fnB (clsFn 16 0)), scope := (fnS (clsFn 16 0)), globals := (0 : Nat), closure := [], defaults := Value.none, kwdefaults := Value.none } } ::
  kAt P 100 ::
  kAt P 101 ::
  kAt P 102 ::
  kAt P 103 ::
  kAt P 104 ::
  kAt P 105 ::
  kAt P 106 ::
  { cls := Value.type "super", data := Data.fields #[Value.ref (104 : Nat), Value.ref (104 : Nat), Value.ref (104 : Nat)] } ::
  { cls := Value.type "builtin_function_or_method", data := Data.fields #[Value.builtin "object.__init_subclass__", Value.ref (104 : Nat)] } ::
  { cls := Value.type "tuple", data := Data.seq #[] } ::
  { cls := Value.type "builtin_function_or_method", data := Data.fields #[Value.builtin "type.__prepare__", Value.type "type"] } ::
  { cls := Value.type "dict", data := Data.dict #[{ hash := PyData.keyHash P (Str.ofString "__module__"), key := Value.str (Str.ofString "__module__") (352 : Nat), val := Value.str (Str.ofString "pipeboard.shell") (259 : Nat) }, { hash := PyData.keyHash P (Str.ofString "__qualname__"), key := Value.str (Str.ofString "__qualname__") (354 : Nat), val := Value.str (Str.ofString "Pair") (353 : Nat) }, { hash := PyData.keyHash P (Str.ofString "__firstlineno__"), key := Value.str (Str.ofString "__firstlineno__") (356 : Nat), val := Value.int (36 : Int) (355 : Nat) }, { hash := PyData.keyHash P (Str.ofString "__init__"), key := Value.str (Str.ofString "__init__") (366 : Nat), val := Value.ref (122 : Nat) }, { hash := PyData.keyHash P (Str.ofString "__static_attributes__"), key := Value.str (Str.ofString "__static_attributes__") (370 : Nat), val := Value.ref (123 : Nat) }] (5 : Nat) } ::
  { cls := Value.type "tuple", data := Data.seq #[] } ::
  { cls := Value.none, data := Data.fields #[Value.int (38 : Int) (0 : Nat), Value.int (4 : Int) (0 : Nat), Value.ref (121 : Nat)] } ::
  { cls := Value.type "code", data := Data.fields #[Value.str (Str.ofString "Pair") (347 : Nat), Value.str (Str.ofString "Pair") (348 : Nat), Value.str (Str.ofString "/claim/cut.py") (349 : Nat), Value.int (36 : Int) (0 : Nat), Value.int (0 : Int) (0 : Nat), Value.int (0 : Int) (0 : Nat), Value.int (0 : Int) (0 : Nat), Value.int (0 : Int) (0 : Nat), Value.ref (112 : Nat), Value.bool Bool.false, Value.int (181 : Int) (0 : Nat), Value.ref (113 : Nat), Value.none, Value.none, Value.none, Value.none, Value.int (350 : Int) (0 : Nat), Value.int (36 : Int) (0 : Nat), Value.str (Str.ofString "/claim/cut.py") (351 : Nat)] } ::
  { cls := Value.type "frame", slots := #[Option.some (Value.ref (114 : Nat)), Option.some (Value.ref (3 : Nat)), Option.some (Value.ref (111 : Nat)), Option.none, Option.some (Value.str (Str.ofString "pipeboard.shell") (259 : Nat)), Option.none, Option.some (Value.ref (0 : Nat))] } ::
  kAt P 116 ::
  { cls := Value.none, data := Data.fields #[] } ::
  kAt P 118 ::
  kAt P 119 ::
  { cls := Value.none, data := Data.func { name := Str.ofString "__init__", qualname := Str.ofString "Pair.__init__", params := (fnA (clsFn 17 0)), body := FuncBody.stmts (fnB (clsFn 17 0)), scope := (fnS (clsFn 17 0)), globals := (0 : Nat), closure := [], defaults := Value.none, kwdefaults := Value.none } } ::
  kAt P 121 ::
  kAt P 122 ::
  kAt P 123 ::
  kAt P 124 ::
  kAt P 125 ::
  kAt P 126 ::
  kAt P 127 ::
  { cls := Value.type "super", data := Data.fields #[Value.ref (125 : Nat), Value.ref (125 : Nat), Value.ref (125 : Nat)] } ::
  { cls := Value.type "builtin_function_or_method", data := Data.fields #[Value.builtin "object.__init_subclass__", Value.ref (125 : Nat)] } ::
  { cls := Value.type "tuple", data := Data.seq #[] } ::
  { cls := Value.type "builtin_function_or_method", data := Data.fields #[Value.builtin "type.__prepare__", Value.type "type"] } ::
  { cls := Value.type "dict", data := Data.dict #[{ hash := PyData.keyHash P (Str.ofString "__module__"), key := Value.str (Str.ofString "__module__") (385 : Nat), val := Value.str (Str.ofString "pipeboard.shell") (259 : Nat) }, { hash := PyData.keyHash P (Str.ofString "__qualname__"), key := Value.str (Str.ofString "__qualname__") (387 : Nat), val := Value.str (Str.ofString "Back") (386 : Nat) }, { hash := PyData.keyHash P (Str.ofString "__firstlineno__"), key := Value.str (Str.ofString "__firstlineno__") (389 : Nat), val := Value.int (42 : Int) (388 : Nat) }, { hash := PyData.keyHash P (Str.ofString "__init__"), key := Value.str (Str.ofString "__init__") (397 : Nat), val := Value.ref (143 : Nat) }, { hash := PyData.keyHash P (Str.ofString "__static_attributes__"), key := Value.str (Str.ofString "__static_attributes__") (399 : Nat), val := Value.ref (144 : Nat) }] (5 : Nat) } ::
  { cls := Value.type "tuple", data := Data.seq #[] } ::
  { cls := Value.none, data := Data.fields #[Value.int (44 : Int) (0 : Nat), Value.int (4 : Int) (0 : Nat), Value.ref (142 : Nat)] } ::
  { cls := Value.type "code", data := Data.fields #[Value.str (Str.ofString "Back") (380 : Nat), Value.str (Str.ofString "Back") (381 : Nat), Value.str (Str.ofString "/claim/cut.py") (382 : Nat), Value.int (42 : Int) (0 : Nat), Value.int (0 : Int) (0 : Nat), Value.int (0 : Int) (0 : Nat), Value.int (0 : Int) (0 : Nat), Value.int (0 : Int) (0 : Nat), Value.ref (133 : Nat), Value.bool Bool.false, Value.int (181 : Int) (0 : Nat), Value.ref (134 : Nat), Value.none, Value.none, Value.none, Value.none, Value.int (383 : Int) (0 : Nat), Value.int (42 : Int) (0 : Nat), Value.str (Str.ofString "/claim/cut.py") (384 : Nat)] } ::
  { cls := Value.type "frame", slots := #[Option.some (Value.ref (135 : Nat)), Option.some (Value.ref (3 : Nat)), Option.some (Value.ref (132 : Nat)), Option.none, Option.some (Value.str (Str.ofString "pipeboard.shell") (259 : Nat)), Option.none, Option.some (Value.ref (0 : Nat))] } ::
  kAt P 137 ::
  { cls := Value.none, data := Data.fields #[] } ::
  kAt P 139 ::
  kAt P 140 ::
  { cls := Value.none, data := Data.func { name := Str.ofString "__init__", qualname := Str.ofString "Back.__init__", params := (fnA (clsFn 18 0)), body := FuncBody.stmts (fnB (clsFn 18 0)), scope := (fnS (clsFn 18 0)), globals := (0 : Nat), closure := [], defaults := Value.none, kwdefaults := Value.none } } ::
  kAt P 142 ::
  kAt P 143 ::
  kAt P 144 ::
  kAt P 145 ::
  kAt P 146 ::
  kAt P 147 ::
  kAt P 148 ::
  { cls := Value.type "super", data := Data.fields #[Value.ref (146 : Nat), Value.ref (146 : Nat), Value.ref (146 : Nat)] } ::
  { cls := Value.type "builtin_function_or_method", data := Data.fields #[Value.builtin "object.__init_subclass__", Value.ref (146 : Nat)] } ::
  { cls := Value.type "tuple", data := Data.seq #[] } ::
  { cls := Value.type "builtin_function_or_method", data := Data.fields #[Value.builtin "type.__prepare__", Value.type "type"] } ::
  { cls := Value.type "dict", data := Data.dict #[{ hash := PyData.keyHash P (Str.ofString "__module__"), key := Value.str (Str.ofString "__module__") (414 : Nat), val := Value.str (Str.ofString "pipeboard.shell") (259 : Nat) }, { hash := PyData.keyHash P (Str.ofString "__qualname__"), key := Value.str (Str.ofString "__qualname__") (416 : Nat), val := Value.str (Str.ofString "Scanner") (415 : Nat) }, { hash := PyData.keyHash P (Str.ofString "__firstlineno__"), key := Value.str (Str.ofString "__firstlineno__") (418 : Nat), val := Value.int (46 : Int) (417 : Nat) }, { hash := PyData.keyHash P (Str.ofString "__init__"), key := Value.str (Str.ofString "__init__") (426 : Nat), val := Value.ref (164 : Nat) }, { hash := PyData.keyHash P (Str.ofString "blanks"), key := Value.str (Str.ofString "blanks") (433 : Nat), val := Value.ref (171 : Nat) }, { hash := PyData.keyHash P (Str.ofString "next_is"), key := Value.str (Str.ofString "next_is") (441 : Nat), val := Value.ref (178 : Nat) }, { hash := PyData.keyHash P (Str.ofString "at_end"), key := Value.str (Str.ofString "at_end") (448 : Nat), val := Value.ref (185 : Nat) }, { hash := PyData.keyHash P (Str.ofString "sign"), key := Value.str (Str.ofString "sign") (456 : Nat), val := Value.ref (192 : Nat) }, { hash := PyData.keyHash P (Str.ofString "is_word"), key := Value.str (Str.ofString "is_word") (463 : Nat), val := Value.ref (199 : Nat) }, { hash := PyData.keyHash P (Str.ofString "word"), key := Value.str (Str.ofString "word") (471 : Nat), val := Value.ref (206 : Nat) }, { hash := PyData.keyHash P (Str.ofString "__static_attributes__"), key := Value.str (Str.ofString "__static_attributes__") (474 : Nat), val := Value.ref (207 : Nat) }] (11 : Nat) } ::
  { cls := Value.type "tuple", data := Data.seq #[] } ::
  { cls := Value.none, data := Data.fields #[Value.int (48 : Int) (0 : Nat), Value.int (4 : Int) (0 : Nat), Value.ref (163 : Nat), Value.int (52 : Int) (0 : Nat), Value.int (4 : Int) (0 : Nat), Value.ref (170 : Nat), Value.int (56 : Int) (0 : Nat), Value.int (4 : Int) (0 : Nat), Value.ref (177 : Nat), Value.int (60 : Int) (0 : Nat), Value.int (4 : Int) (0 : Nat), Value.ref (184 : Nat), Value.int (64 : Int) (0 : Nat), Value.int (4 : Int) (0 : Nat), Value.ref (191 : Nat), Value.int (72 : Int) (0 : Nat), Value.int (4 : Int) (0 : Nat), Value.ref (198 : Nat), Value.int (75 : Int) (0 : Nat), Value.int (4 : Int) (0 : Nat), Value.ref (205 : Nat)] } ::
  { cls := Value.type "code", data := Data.fields #[Value.str (Str.ofString "Scanner") (409 : Nat), Value.str (Str.ofString "Scanner") (410 : Nat), Value.str (Str.ofString "/claim/cut.py") (411 : Nat), Value.int (46 : Int) (0 : Nat), Value.int (0 : Int) (0 : Nat), Value.int (0 : Int) (0 : Nat), Value.int (0 : Int) (0 : Nat), Value.int (0 : Int) (0 : Nat), Value.ref (154 : Nat), Value.bool Bool.false, Value.int (181 : Int) (0 : Nat), Value.ref (155 : Nat), Value.none, Value.none, Value.none, Value.none, Value.int (412 : Int) (0 : Nat), Value.int (46 : Int) (0 : Nat), Value.str (Str.ofString "/claim/cut.py") (413 : Nat)] } ::
  { cls := Value.type "frame", slots := #[Option.some (Value.ref (156 : Nat)), Option.some (Value.ref (3 : Nat)), Option.some (Value.ref (153 : Nat)), Option.none, Option.some (Value.str (Str.ofString "pipeboard.shell") (259 : Nat)), Option.none, Option.some (Value.ref (0 : Nat))] } ::
  kAt P 158 ::
  { cls := Value.none, data := Data.fields #[] } ::
  kAt P 160 ::
  kAt P 161 ::
  { cls := Value.none, data := Data.func { name := Str.ofString "__init__", qualname := Str.ofString "Scanner.__init__", params := (fnA (clsFn 19 0)), body := FuncBody.stmts (fnB (clsFn 19 0)), scope := (fnS (clsFn 19 0)), globals := (0 : Nat), closure := [], defaults := Value.none, kwdefaults := Value.none } } ::
  kAt P 163 ::
  kAt P 164 ::
  kAt P 165 ::
  { cls := Value.none, data := Data.fields #[] } ::
  kAt P 167 ::
  kAt P 168 ::
  { cls := Value.none, data := Data.func { name := Str.ofString "blanks", qualname := Str.ofString "Scanner.blanks", params := (fnA (clsFn 19 1)), body := FuncBody.stmts (fnB (clsFn 19 1)), scope := (fnS (clsFn 19 1)), globals := (0 : Nat), closure := [], defaults := Value.none, kwdefaults := Value.none } } ::
  kAt P 170 ::
  kAt P 171 ::
  kAt P 172 ::
  { cls := Value.none, data := Data.fields #[] } ::
  kAt P 174 ::
  kAt P 175 ::
  { cls := Value.none, data := Data.func { name := Str.ofString "next_is", qualname := Str.ofString "Scanner.next_is", params := (fnA (clsFn 19 2)), body := FuncBody.stmts (fnB (clsFn 19 2)), scope := (fnS (clsFn 19 2)), globals := (0 : Nat), closure := [], defaults := Value.none, kwdefaults := Value.none } } ::
  kAt P 177 ::
  kAt P 178 ::
  kAt P 179 ::
  { cls := Value.none, data := Data.fields #[] } ::
  kAt P 181 ::
  kAt P 182 ::
  { cls := Value.none, data := Data.func { name := Str.ofString "at_end", qualname := Str.ofString "Scanner.at_end", params := (fnA (clsFn 19 3)), body := FuncBody.stmts (fnB (clsFn 19 3)), scope := (fnS (clsFn 19 3)), globals := (0 : Nat), closure := [], defaults := Value.none, kwdefaults := Value.none } } ::
  kAt P 184 ::
  kAt P 185 ::
  kAt P 186 ::
  { cls := Value.none, data := Data.fields #[] } ::
  kAt P 188 ::
  kAt P 189 ::
  { cls := Value.none, data := Data.func { name := Str.ofString "sign", qualname := Str.ofString "Scanner.sign", params := (fnA (clsFn 19 4)), body := FuncBody.stmts (fnB (clsFn 19 4)), scope := (fnS (clsFn 19 4)), globals := (0 : Nat), closure := [], defaults := Value.none, kwdefaults := Value.none } } ::
  kAt P 191 ::
  kAt P 192 ::
  kAt P 193 ::
  { cls := Value.none, data := Data.fields #[] } ::
  kAt P 195 ::
  kAt P 196 ::
  { cls := Value.none, data := Data.func { name := Str.ofString "is_word", qualname := Str.ofString "Scanner.is_word", params := (fnA (clsFn 19 5)), body := FuncBody.stmts (fnB (clsFn 19 5)), scope := (fnS (clsFn 19 5)), globals := (0 : Nat), closure := [], defaults := Value.none, kwdefaults := Value.none } } ::
  kAt P 198 ::
  kAt P 199 ::
  kAt P 200 ::
  { cls := Value.none, data := Data.fields #[] } ::
  kAt P 202 ::
  kAt P 203 ::
  { cls := Value.none, data := Data.func { name := Str.ofString "word", qualname := Str.ofString "Scanner.word", params := (fnA (clsFn 19 6)), body := FuncBody.stmts (fnB (clsFn 19 6)), scope := (fnS (clsFn 19 6)), globals := (0 : Nat), closure := [], defaults := Value.none, kwdefaults := Value.none } } ::
  kAt P 205 ::
  kAt P 206 ::
  kAt P 207 ::
  kAt P 208 ::
  kAt P 209 ::
  kAt P 210 ::
  kAt P 211 ::
  { cls := Value.type "super", data := Data.fields #[Value.ref (209 : Nat), Value.ref (209 : Nat), Value.ref (209 : Nat)] } ::
  { cls := Value.type "builtin_function_or_method", data := Data.fields #[Value.builtin "object.__init_subclass__", Value.ref (209 : Nat)] } ::
  kAt P 214 ::
  { cls := Value.none, data := Data.fields #[] } ::
  kAt P 216 ::
  kAt P 217 ::
  { cls := Value.none, data := Data.func { name := Str.ofString "fault", qualname := Str.ofString "fault", params := (fnA (topFn 20)), body := FuncBody.stmts (fnB (topFn 20)), scope := (fnS (topFn 20)), globals := (0 : Nat), closure := [], defaults := Value.none, kwdefaults := Value.none } } ::
  kAt P 219 ::
  kAt P 220 ::
  kAt P 221 ::
  { cls := Value.none, data := Data.fields #[] } ::
  kAt P 223 ::
  kAt P 224 ::
  { cls := Value.none, data := Data.func { name := Str.ofString "parse", qualname := Str.ofString "parse", params := (fnA (topFn 21)), body := FuncBody.stmts (fnB (topFn 21)), scope := (fnS (topFn 21)), globals := (0 : Nat), closure := [], defaults := Value.none, kwdefaults := Value.none } } ::
  kAt P 226 ::
  kAt P 227 ::
  kAt P 228 ::
  { cls := Value.none, data := Data.fields #[] } ::
  kAt P 230 ::
  kAt P 231 ::
  { cls := Value.none, data := Data.func { name := Str.ofString "parse_line", qualname := Str.ofString "parse_line", params := (fnA (topFn 22)), body := FuncBody.stmts (fnB (topFn 22)), scope := (fnS (topFn 22)), globals := (0 : Nat), closure := [], defaults := Value.none, kwdefaults := Value.none } } ::
  kAt P 233 ::
  kAt P 234 ::
  kAt P 235 ::
  { cls := Value.none, data := Data.fields #[] } ::
  kAt P 237 ::
  kAt P 238 ::
  { cls := Value.none, data := Data.func { name := Str.ofString "parse_pipe", qualname := Str.ofString "parse_pipe", params := (fnA (topFn 23)), body := FuncBody.stmts (fnB (topFn 23)), scope := (fnS (topFn 23)), globals := (0 : Nat), closure := [], defaults := Value.none, kwdefaults := Value.none } } ::
  kAt P 240 ::
  kAt P 241 ::
  kAt P 242 ::
  { cls := Value.none, data := Data.fields #[] } ::
  kAt P 244 ::
  kAt P 245 ::
  { cls := Value.none, data := Data.func { name := Str.ofString "parse_redirects", qualname := Str.ofString "parse_redirects", params := (fnA (topFn 24)), body := FuncBody.stmts (fnB (topFn 24)), scope := (fnS (topFn 24)), globals := (0 : Nat), closure := [], defaults := Value.none, kwdefaults := Value.none } } ::
  kAt P 247 ::
  kAt P 248 ::
  kAt P 249 ::
  { cls := Value.none, data := Data.fields #[] } ::
  kAt P 251 ::
  kAt P 252 ::
  { cls := Value.none, data := Data.func { name := Str.ofString "parse_block", qualname := Str.ofString "parse_block", params := (fnA (topFn 25)), body := FuncBody.stmts (fnB (topFn 25)), scope := (fnS (topFn 25)), globals := (0 : Nat), closure := [], defaults := Value.none, kwdefaults := Value.none } } ::
  kAt P 254 ::
  kAt P 255 ::
  kAt P 256 ::
  { cls := Value.none, data := Data.fields #[] } ::
  kAt P 258 ::
  kAt P 259 ::
  { cls := Value.none, data := Data.func { name := Str.ofString "parse_command", qualname := Str.ofString "parse_command", params := (fnA (topFn 26)), body := FuncBody.stmts (fnB (topFn 26)), scope := (fnS (topFn 26)), globals := (0 : Nat), closure := [], defaults := Value.none, kwdefaults := Value.none } } ::
  kAt P 261 ::
  kAt P 262 ::
  kAt P 263 ::
  { cls := Value.none, data := Data.fields #[] } ::
  kAt P 265 ::
  kAt P 266 ::
  { cls := Value.none, data := Data.func { name := Str.ofString "text_of", qualname := Str.ofString "text_of", params := (fnA (topFn 27)), body := FuncBody.stmts (fnB (topFn 27)), scope := (fnS (topFn 27)), globals := (0 : Nat), closure := [], defaults := Value.none, kwdefaults := Value.none } } ::
  kAt P 268 ::
  kAt P 269 ::
  kAt P 270 ::
  { cls := Value.none, data := Data.fields #[] } ::
  kAt P 272 ::
  kAt P 273 ::
  { cls := Value.none, data := Data.func { name := Str.ofString "grouped", qualname := Str.ofString "grouped", params := (fnA (topFn 28)), body := FuncBody.stmts (fnB (topFn 28)), scope := (fnS (topFn 28)), globals := (0 : Nat), closure := [], defaults := Value.none, kwdefaults := Value.none } } ::
  kAt P 275 ::
  kAt P 276 ::
  kAt P 277 ::
  { cls := Value.none, data := Data.fields #[] } ::
  kAt P 279 ::
  kAt P 280 ::
  { cls := Value.none, data := Data.func { name := Str.ofString "piped", qualname := Str.ofString "piped", params := (fnA (topFn 29)), body := FuncBody.stmts (fnB (topFn 29)), scope := (fnS (topFn 29)), globals := (0 : Nat), closure := [], defaults := Value.none, kwdefaults := Value.none } } ::
  kAt P 282 ::
  kAt P 283 ::
  kAt P 284 ::
  { cls := Value.none, data := Data.fields #[] } ::
  kAt P 286 ::
  kAt P 287 ::
  { cls := Value.none, data := Data.func { name := Str.ofString "_law_pool", qualname := Str.ofString "_law_pool", params := (fnA (topFn 31)), body := FuncBody.stmts (fnB (topFn 31)), scope := (fnS (topFn 31)), globals := (0 : Nat), closure := [], defaults := Value.none, kwdefaults := Value.none } } ::
  kAt P 289 ::
  kAt P 290 ::
  kAt P 291 ::
  { cls := Value.none, data := Data.fields #[] } ::
  kAt P 293 ::
  kAt P 294 ::
  { cls := Value.none, data := Data.func { name := Str.ofString "_law_take", qualname := Str.ofString "_law_take", params := (fnA (topFn 32)), body := FuncBody.stmts (fnB (topFn 32)), scope := (fnS (topFn 32)), globals := (0 : Nat), closure := [], defaults := Value.none, kwdefaults := Value.none } } ::
  kAt P 296 ::
  kAt P 297 ::
  kAt P 298 ::
  { cls := Value.none, data := Data.fields #[] } ::
  { cls := Value.none, data := Data.func { name := Str.ofString "_law_made", qualname := Str.ofString "_law_made", params := (fnA (topFn 33)), body := FuncBody.stmts (fnB (topFn 33)), scope := (fnS (topFn 33)), globals := (0 : Nat), closure := [], defaults := Value.none, kwdefaults := Value.none } } ::
  kAt P 301 ::
  kAt P 302 ::
  kAt P 303 ::
  { cls := Value.none, data := Data.fields #[] } ::
  kAt P 305 ::
  kAt P 306 ::
  { cls := Value.none, data := Data.func { name := Str.ofString "_law_shape", qualname := Str.ofString "_law_shape", params := (fnA (topFn 34)), body := FuncBody.stmts (fnB (topFn 34)), scope := (fnS (topFn 34)), globals := (0 : Nat), closure := [], defaults := Value.none, kwdefaults := Value.none } } ::
  kAt P 308 ::
  kAt P 309 ::
  kAt P 310 ::
  { cls := Value.none, data := Data.fields #[] } ::
  kAt P 312 ::
  kAt P 313 ::
  { cls := Value.none, data := Data.func { name := Str.ofString "_law_right", qualname := Str.ofString "_law_right", params := (fnA (topFn 35)), body := FuncBody.stmts (fnB (topFn 35)), scope := (fnS (topFn 35)), globals := (0 : Nat), closure := [], defaults := Value.none, kwdefaults := Value.none } } ::
  kAt P 315 ::
  kAt P 316 ::
  kAt P 317 ::
  { cls := Value.none, data := Data.fields #[] } ::
  kAt P 319 ::
  kAt P 320 ::
  { cls := Value.none, data := Data.func { name := Str.ofString "law", qualname := Str.ofString "law", params := (fnA (topFn 36)), body := FuncBody.stmts (fnB (topFn 36)), scope := (fnS (topFn 36)), globals := (0 : Nat), closure := [], defaults := Value.none, kwdefaults := Value.none } } ::
  kAt P 322 ::
  kAt P 323 :: []
noncomputable def finT (P : Params) : BT := putAll (fin P) 0 .nil
noncomputable def finH (P : Params) : Heap := ⟨⟨fin P⟩, {}⟩
theorem finT_abs (P : Params) : absHeap (finT P) 324 {} = finH P := by kernel_rfl
theorem top_end (w : World) (os : OsState) : topRunT treeTable PySem.Challenge.pw_nz0214_01 w 11 (some (.ref 6)) 5310 ⟨bootT w.params, 11, (boot_heap w.params).life, ⟨[]⟩, boot_drawn, boot_toks, os⟩ (topStub PySem.Challenge.pw_nz0214_01) =
    some ⟨finT w.params, 324, {}, ⟨[]⟩, {}, 620, os⟩ := by
  rw [topRunQ_eq, PySem.W.Fast.te14364793385576792824]
  kernel_rfl
theorem top_all (w : World) (os : OsState) : topRun treeTable PySem.Challenge.pw_nz0214_01 w 11 (some (.ref 6)) 5310 ⟨boot_heap w.params, ⟨[]⟩, boot_drawn, boot_toks, os⟩ (topStub PySem.Challenge.pw_nz0214_01) =
    some ⟨finH w.params, ⟨[]⟩, {}, 620, os⟩ := by
  have h := topRunT_spec (top_end w os)
  have a0 : (⟨bootT w.params, 11, (boot_heap w.params).life, ⟨[]⟩, boot_drawn, boot_toks, os⟩ : SharedT).abs = ⟨boot_heap w.params, ⟨[]⟩, boot_drawn, boot_toks, os⟩ := by
    unfold SharedT.abs
    rw [bootT_abs]
  have a1 : (⟨finT w.params, 324, {}, ⟨[]⟩, {}, 620, os⟩ : SharedT).abs = ⟨finH w.params, ⟨[]⟩, {}, 620, os⟩ := by
    unfold SharedT.abs
    rw [finT_abs]
  rw [a0, a1] at h
  exact h
theorem look_rest (P : Params) (os : OsState) : (staticsOk (importedModules PySem.Challenge.pw_nz0214_01.main.body) (boot_heap P) (finH P) && namesBound PySem.Challenge.pw_nz0214_01 (finH P) && gensDone ⟨finH P, ⟨[]⟩, {}, 620, os⟩ && laidKept (boot_heap P) (finH P)) = true := by kernel_rfl
theorem look_open (w : World) (os : OsState) : openSeen q [Str.ofString "BoardError"] (importedModules PySem.Challenge.pw_nz0214_01.main.body) (fun s => xlAt q [] s && recOk PySem.Challenge.rw_nz0214_01.row.records s) true ⟨finH w.params, ⟨[]⟩, {}, 620, os⟩ = openGood q [Str.ofString "BoardError"] := by
  rw [PySem.W.Fast.te4187177175401517315, PySem.W.Fast.te5923862056798008813]
  kernel_rfl
theorem look_part (P : Params) : asK.map (finH P).get? = (K P).map fun p => some p.2 := by kernel_rfl
theorem left_all : LeftO PySem.Challenge.pw_nz0214_01 q [Str.ofString "BoardError"] (fun s => xlAt q [] s && recOk PySem.Challenge.rw_nz0214_01.row.records s) (fun s => asK.map s.heap.get?) (fun w => (K w.params).map fun p => some p.2) 5310 :=
  LeftO.of_pieces (H₀ := boot_heap) (H₁ := finH) (boot_open (by kernel_rfl) (by kernel_rfl) (fun _ => by kernel_rfl)) (fun w => by kernel_rfl) top_all (by kernel_rfl)
    (fun w => funext fun os => Prod.ext (look_rest w.params os) (Prod.ext (look_open w os) (look_part w.params)))

noncomputable abbrev scanObj (h1 h2 : Int) (k1 k2 : Tok) (line : Str) (t : Tok) (p : Int) (u : Tok) : Obj :=
  dictOf [⟨h1, .str "line" k1, .str line t⟩, ⟨h2, .str "place" k2, .int p u⟩] 2

noncomputable def Does (w : World) (mean : ExcName → Option Value) (mg mb : Str → Option Value) (f : Addr) (args : List Value) (led : List (Addr × Obj)) (dep uni : Nat) (post : List (Addr × Obj) → Value → Prop) : Prop :=
  ∀ (dp un : Nat) (gd : Option (List Code)) (cn : Str) (cs : Scope) (a : Addr) (ccd : Value) (cl : List (Str × Addr)) (outer : List Env) (A₀ : Around) (base h₀ : Heap) (L : Addr) (m : Str → Option Value) (s : Shared)
    (Q E : Value → Shared → Prop),
    Below A₀ base outer h₀ → Fr h₀ L s.heap m → (Mine.K w.params).In h₀ → News h₀ L s.heap led →
    Top Mine.q (looseW Mine.q [Str.ofString "BoardError"]) mean mg mb h₀ → cs.kind = .function → dp + dep < recursionLimit → un + uni < cLine →
    (∀ r led' h' tk', Fr h₀ L h' m → News h₀ L h' led' → post led' r → Q r { s with heap := h', toks := tk' }) →
    wpAny (model PySem.Challenge.rw_nz0214_01.row.prog w) (ktrTop dp un gd cn cs L a ccd cl outer) (PySem.call (.ref f) args) Q E s

noncomputable def isBlank (c : Nat) : Bool := c == 32 || c == 9 || c == 13 || c == 10 || c == 11

noncomputable def At (line : Str) (p : Int) (rest : List Nat) : Prop := 0 ≤ p ∧ p ≤ line.length ∧ line.cps.toList.drop p.toNat = rest

theorem At.nil {line : Str} {p : Int} (h : At line p []) : 0 ≤ p ∧ p = line.length := by
  obtain ⟨h0, h1, h2⟩ := h
  rw [List.drop_eq_nil_iff] at h2
  simp only [Array.length_toList] at h2
  unfold Str.length at *
  omega
theorem At.cons {line : Str} {p : Int} {c : Nat} {r : List Nat} (h : At line p (c :: r)) : 0 ≤ p ∧ p < line.length ∧ line.cps[p.toNat]? = some c ∧ At line (p + 1) r := by
  obtain ⟨h0, h1, h2⟩ := h
  have hl : p.toNat < line.cps.toList.length := by
    apply Decidable.byContradiction
    intro hn
    rw [List.drop_eq_nil_of_le (by omega)] at h2
    cases h2
  rw [List.drop_eq_getElem_cons hl] at h2
  injection h2 with e1 e2
  simp only [Array.length_toList] at hl
  have hlt : p < line.length := by unfold Str.length; omega
  refine ⟨h0, hlt, ?_, by omega, by omega, ?_⟩
  · rw [← e1]; simp [hl]
  · rw [← e2]; congr 1; omega

theorem dropBlank_idem {r r1 : List Nat} (h : r.dropWhile isBlank = r1) : r1.dropWhile isBlank = r1 := by
  subst h
  induction r with
  | nil => rfl
  | cons c r ih =>
    cases hc : isBlank c with
    | true => rw [List.dropWhile_cons_of_pos hc]; exact ih
    | false => rw [List.dropWhile_cons_of_neg (by simp [hc]), List.dropWhile_cons_of_neg (by simp [hc])]
theorem At.split {line : Str} {p : Int} {r : List Nat} (h : At line p r) :
    (r = [] ∧ 0 ≤ p ∧ p = line.length ∧ At line p []) ∨ (∃ c r2, r = c :: r2 ∧ 0 ≤ p ∧ p < line.length ∧ line.cps[p.toNat]? = some c ∧ At line p (c :: r2) ∧ At line (p + 1) r2) := by
  cases r with
  | nil => exact .inl ⟨rfl, h.nil.1, h.nil.2, h⟩
  | cons c r2 => exact .inr ⟨c, r2, rfl, h.cons.1, h.cons.2.1, h.cons.2.2.1, h, h.cons.2.2.2⟩

section
variable {prog : Program} {w : World} {A : Around} {E : Value → Shared → Prop} {s : Shared}
theorem item_at {line : Str} {p : Int} {c : Nat} {t u : Tok} {Q : Value → Shared → Prop} (h0 : 0 ≤ p) (hlt : p < line.length) (hlen : line.length ≤ 16777216) (hc : line.cps[p.toNat]? = some c)
    (h : Q (.str ⟨#[c]⟩ s.toks) { s with toks := s.toks + 1 }) : wpAny (model prog w) A (getItem (.str line t) (.int p u)) Q E s := by
  refine P.getItem_str (c := c) ?_ ?_ h
  · have a : ¬ p < -(2 ^ 63 : Int) := by omega
    have b : ¬ p ≥ 2 ^ 63 := by omega
    simp only [a, b, decide_false, Bool.or_false]
  · rw [seqIndex_of h0 hlt]; exact hc
theorem tail_at {value slice : PySem.Expr} {line : Str} {p : Int} {c : Nat} {t u : Tok} {Q : Value → Shared → Prop} (h0 : 0 ≤ p) (hlt : p < line.length) (hlen : line.length ≤ 16777216) (hc : line.cps[p.toNat]? = some c)
    (h : Q (.str ⟨#[c]⟩ s.toks) { s with toks := s.toks + 1 }) 
    (hs : subscripted slice false (.str line t) (.int p u) = operate [.str line t, .int p u] (getItem (.str line t) (.int p u)) := by with_unfolding_all rfl) :
    wpAny (model prog w) A (subscriptTail value slice (.str line t) (.int p u)) Q E s :=
  tail_any (typeIs_str s line t) F.slot_str_getitem.lookup (item_at h0 hlt hlen hc h) hs
theorem in_one {x : Str} {c : Nat} {t u : Tok} {Q : Value → Shared → Prop} (h : Q (.bool (decide (c ∈ x.cps.toList))) s) : wpAny (model prog w) A (compareOp .In (.str ⟨#[c]⟩ u) (.str x t)) Q E s := by
  refine P.in_str ?_
  rw [StrLaws.found_one]
  exact h
theorem notIn_one {x : Str} {c : Nat} {t u : Tok} {Q : Value → Shared → Prop} (h : Q (.bool (!decide (c ∈ x.cps.toList))) s) : wpAny (model prog w) A (compareOp .NotIn (.str ⟨#[c]⟩ u) (.str x t)) Q E s := by
  refine P.notIn_str ?_
  rw [StrLaws.found_one]
  exact h
theorem in_blanks {c : Nat} {t u : Tok} {Q : Value → Shared → Prop} (h : Q (.bool (isBlank c)) s) : wpAny (model prog w) A (compareOp .In (.str ⟨#[c]⟩ u) (.str (Str.ofString " \t\x0d\n\x0b") t)) Q E s := by
  refine in_one ?_
  have e : (Str.ofString " \t\x0d\n\x0b") = Str.mk #[32, 9, 13, 10, 11] := by decide +kernel
  rw [e]
  have : decide (c ∈ (Str.mk #[32, 9, 13, 10, 11]).cps.toList) = isBlank c := by
    unfold isBlank
    rw [Bool.eq_iff_iff, decide_eq_true_eq]
    simp only [List.mem_cons, List.not_mem_nil, or_false, Bool.or_eq_true, beq_iff_eq, or_assoc]
  rw [this]; exact h
end
local macro_rules | `(tactic| walk_at "subscriptTail") => `(tactic| (k_here; (with_reducible show wpAny _ _ (subscriptTail _ _ (Value.str _ _) (Value.int _ _)) _ _ _); k_dflt (refine' tail_at ?k1 ?k2 ?k3 ?k4 ?_ ?k5; (case k1 => assumption); (case k2 => assumption); (case k3 => assumption); (case k4 => assumption); (case k5 => with_unfolding_all rfl))))
local macro_rules | `(tactic| walk_at "compareOp In str str") => `(tactic| (k_here; first | ((with_reducible show wpAny _ _ (compareOp _ (Value.str (Str.mk _) _) (Value.str (Str.ofString " \t\x0d\n\x0b") _)) _ _ _); k_dflt (refine in_blanks ?_)) | ((with_reducible show wpAny _ _ (compareOp _ (Value.str (Str.mk _) _) (Value.str _ _)) _ _ _); k_dflt (refine in_one ?_))))

theorem while_led {prog : Program} {w : World} {A : Around} {E : Value → Shared → Prop} {Q : Flow → Shared → Prop} {s : Shared} {env : Env} {h₀ : Heap} {L : Addr} {test : PySem.Expr} {body : List Stmt} {pos : Pos} {m : Str → Option Value} {news : List (Addr × Obj)} (P : Nat → List (Addr × Obj) → Prop) {n₀ : Nat}
    (F : Fr h₀ L s.heap m) (N : News h₀ L s.heap news) (hP : P n₀ news)
    (turn : ∀ n nx h tk, Fr h₀ L h m → News h₀ L h nx → P n nx →
      wpAny (model prog w) A (isTrue test env (eval test env)) (fun b s₂ =>
        if b = true then wpAny (model prog w) A (execs body env) (WhileStep2 h₀ L s (fun n' m' nx' => m' = m ∧ P n' nx') Q n) E s₂ else Q .next s₂) E { s with heap := h, toks := tk })
    (hE : PassesOwn (model prog w) A env E := by passes_own) :
    wpAny (model prog w) A (exec (.While test body [] pos) env) Q E s :=
  While_inv2 (fun n m' nx => m' = m ∧ P n nx) F N ⟨rfl, hP⟩ (fun n m₁ nx h tk F₁ N₁ J₁ => by
    obtain ⟨rfl, hp⟩ := J₁
    exact turn n nx h tk F₁ N₁ hp) hE

local macro_rules | `(tactic| k_mem) => `(tactic| first | exact List.Mem.head _ | ktr_member | (refine' List.mem_cons_of_mem _ ?_; k_mem))
local macro_rules | `(tactic| k_all) => `(tactic| assumption)
theorem ne_any {al sd : Addr} {rest : List (Addr × Obj)} {o : Obj} (h : ∀ o : Obj, ∀ q ∈ (al, o) :: rest, q.1 ≠ sd) : ∀ q ∈ (al, o) :: rest, q.1 ≠ sd := h o
local macro_rules | `(tactic| walk_at "hsd") => `(tactic| first | assumption | exact ne_any (by assumption))
local macro_rules | `(tactic| k_room) => `(tactic| ktr_room)

theorem blanks_does {w : World} {mean : ExcName → Option Value} {mg mb : Str → Option Value} {sc sd : Addr} {h1 h2 : Int} {k1 k2 : Tok} {line : Str} {t : Tok} {p : Int} {u : Tok} {rest : List Nat} {news : List (Addr × Obj)}
    (hsc : (sc, instObj 209 sd) ∈ news) (hsd : ∀ q ∈ news, q.1 ≠ sd) (hat : At line p rest) (hlen : line.length ≤ 16777216) {r1 : List Nat} (hdr : rest.dropWhile isBlank = r1) :
    Does w mean mg mb 171 [.ref sc] ((sd, scanObj h1 h2 k1 k2 line t p u) :: news) 2 20 (fun led' r => r = .none ∧ ∃ p' u', led' = (sd, scanObj h1 h2 k1 k2 line t p' u') :: news ∧ At line p' r1) := by
  subst hdr
  unfold Does
  k_fill
  intro dp un gd cn cs a ccd cl outer A₀ base h₀ L m s Q E B F X N T hk hd hu hret

  refine wpAny_call ?_
  k_dflt ktr_enter
  walk1; walk1
  (rename Fr _ _ _ _ => F1)
  (rename News _ _ _ _ => N1)
  k_dflt (refine' while_led (fun n nx => ∃ (p' : Int) (u' : Tok) (r' : List Nat), nx = (sd, scanObj h1 h2 k1 k2 line t p' u') :: news ∧ At line p' r' ∧ r'.dropWhile isBlank = rest.dropWhile isBlank ∧ n = r'.length) F1 N1 ⟨p, u, rest, rfl, hat, rfl, rfl⟩ ?_ ?hE; (case hE => first | passes_own | with_unfolding_all passes_own))
  clear F1 N1
  rintro n nx h1' tk1 F2 N2 ⟨p', u', r', rfl, hat', hr', rfl⟩
  (try k_fold)
  cases r' with
  | nil =>
    obtain ⟨hp0, hp1⟩ := hat'.nil
    k_steps
    exact hret _ _ _ _ (by k_asm) (by k_asm) ⟨rfl, _, _, rfl, by rw [← hr']; exact hat'⟩
  | cons c r2 =>
    obtain ⟨hp0, hp1, hc, hat2⟩ := hat'.cons
    k_steps
    · exact ⟨_, _, _, _, r2.length, rfl, by k_asm, by k_asm, Nat.lt_succ_self _, rfl, _, _, r2, rfl, hat2, by rw [← hr', List.dropWhile_cons_of_pos (by assumption)], rfl⟩
    · exact hret _ _ _ _ (by k_asm) (by k_asm) ⟨rfl, _, _, rfl, by rw [← hr', List.dropWhile_cons_of_neg (by simp_all)]; exact hat'⟩


section
variable {w : World} {mean : ExcName → Option Value} {mg mb : Str → Option Value} {f : Addr} {args : List Value} {led : List (Addr × Obj)} {dep uni : Nat} {post : List (Addr × Obj) → Value → Prop}
theorem Does.use {dp un : Nat} {gd : Option (List Code)} {cn : Str} {cs : Scope} {a : Addr} {ccd : Value} {cl : List (Str × Addr)} {outer : List Env} {A₀ : Around} {base h₀ : Heap} {L : Addr} {m : Str → Option Value} {s : Shared}
    {Q E : Value → Shared → Prop} (D : Does w mean mg mb f args led dep uni post)
    (B : Below A₀ base outer h₀) (F : Fr h₀ L s.heap m) (X : (Mine.K w.params).In h₀) (N : News h₀ L s.heap led)
    (T : Top Mine.q (looseW Mine.q [Str.ofString "BoardError"]) mean mg mb h₀) (hk : cs.kind = .function) (hd : dp + dep < recursionLimit) (hu : un + uni < cLine)
    (ret : ∀ r led' h' tk', Fr h₀ L h' m → News h₀ L h' led' → post led' r → Q r { s with heap := h', toks := tk' }) :
    wpAny (model PySem.Challenge.rw_nz0214_01.row.prog w) (ktrTop dp un gd cn cs L a ccd cl outer) (PySem.call (.ref f) args) Q E s := D _ _ _ _ _ _ _ _ _ _ _ _ _ _ _ _ _ B F X N T hk hd hu ret
theorem Does.auto {dp un : Nat} {gd : Option (List Code)} {cn : Str} {cs : Scope} {a : Addr} {ccd : Value} {cl : List (Str × Addr)} {outer : List Env} {A₀ : Around} {base h₀ : Heap} {L : Addr} {m : Str → Option Value} {s : Shared}
    {Q E : Value → Shared → Prop} (D : Does w mean mg mb f args led dep uni post)
    (hd : dp + dep < recursionLimit) (hu : un + uni < cLine)
    (ret : ∀ r led' h' tk', Fr h₀ L h' m → News h₀ L h' led' → post led' r → Q r { s with heap := h', toks := tk' })
    (B : Below A₀ base outer h₀ := by k_asm) (F : Fr h₀ L s.heap m := by k_asm) (X : (Mine.K w.params).In h₀ := by k_asm) (N : News h₀ L s.heap led := by k_asm)
    (T : Top Mine.q (looseW Mine.q [Str.ofString "BoardError"]) mean mg mb h₀ := by k_asm) (hk : cs.kind = .function := by first | exact rfl | assumption) :
    wpAny (model PySem.Challenge.rw_nz0214_01.row.prog w) (ktrTop dp un gd cn cs L a ccd cl outer) (PySem.call (.ref f) args) Q E s := D _ _ _ _ _ _ _ _ _ _ _ _ _ _ _ _ _ B F X N T hk hd hu ret
end
local macro_rules | `(tactic| walk_at "call ref") => `(tactic| (k_here; (with_reducible show wpAny _ _ (PySem.call (Value.ref 171) _ _) _ _ _); k_dflt (refine' Does.auto (blanks_does ?sc ?sd ?kAt ?len ?kDr) ?hd ?hu ?_; (case sc => k_mem); (case sd => walk_at "hsd"); (case kAt => assumption); (case len => assumption); (case kDr => assumption); (case hd => ktr_room); (case hu => ktr_units); k_whole); rintro _ _ h' tk' F' N' ⟨e1, p', u', e2, hat'⟩; subst e1; subst e2; (have hdr2 := dropBlank_idem (by assumption)); (first | (have hats := At.cons hat'; obtain ⟨hp0, hp1, hc', hat2⟩ := hats) | (have hats := At.nil hat'; obtain ⟨hp0, hp1⟩ := hats) | skip); (try k_sweep)))

noncomputable def headIn (signs : Str) : List Nat → Bool
  | [] => false
  | c :: _ => decide (c ∈ signs.cps.toList)

theorem nextIs_does {w : World} {mean : ExcName → Option Value} {mg mb : Str → Option Value} {sc sd : Addr} {h1 h2 : Int} {k1 k2 : Tok} {line : Str} {t : Tok} {p : Int} {u : Tok} {rest : List Nat} {news : List (Addr × Obj)} {signs : Str} {ts : Tok}
    (hsc : (sc, instObj 209 sd) ∈ news) (hsd : ∀ q ∈ news, q.1 ≠ sd) (hat : At line p rest) (hlen : line.length ≤ 16777216) {r1 : List Nat} (hdr : rest.dropWhile isBlank = r1) {b : Bool} (hb : headIn signs r1 = b) :
    Does w mean mg mb 178 [.ref sc, .str signs ts] ((sd, scanObj h1 h2 k1 k2 line t p u) :: news) 4 40 (fun led' r => r = .bool b ∧ ∃ p' u', led' = (sd, scanObj h1 h2 k1 k2 line t p' u') :: news ∧ At line p' r1) := by
  subst hb
  unfold Does
  k_fill
  intro dp un gd cn cs a ccd cl outer A₀ base h₀ L m s Q E B F X N T hk hd hu hret
  refine wpAny_call ?_
  k_dflt ktr_enter
  cases r1 with
  | nil =>
    k_steps
    refine hret _ _ _ _ (by k_asm) (by k_asm) ⟨?_, _, _, rfl, by assumption⟩
    simp only [headIn, Value.bool.injEq, decide_eq_false_iff_not]; omega
  | cons c r2 =>
    k_steps
    refine hret _ _ _ _ (by k_asm) (by k_asm) ⟨?_, _, _, rfl, by assumption⟩
    rfl

local macro_rules | `(tactic| walk_at "call ref") => `(tactic| (k_here; (with_reducible show wpAny _ _ (PySem.call (Value.ref 178) _ _) _ _ _); k_dflt (refine' Does.auto (nextIs_does ?sc ?sd ?kAt ?len ?kDr ?kHb) ?hd ?hu ?_; (case sc => k_mem); (case sd => walk_at "hsd"); (case kAt => assumption); (case len => assumption); (case kDr => assumption); (case kHb => first | assumption | exact rfl); (case hd => ktr_room); (case hu => ktr_units); k_whole); rintro _ _ h' tk' F' N' ⟨e1, p', u', e2, hat'⟩; subst e1; subst e2; (have hdr2 := dropBlank_idem (by assumption)); (try k_sweep)))

theorem atEnd_does {w : World} {mean : ExcName → Option Value} {mg mb : Str → Option Value} {sc sd : Addr} {h1 h2 : Int} {k1 k2 : Tok} {line : Str} {t : Tok} {p : Int} {u : Tok} {rest : List Nat} {news : List (Addr × Obj)}
    (hsc : (sc, instObj 209 sd) ∈ news) (hsd : ∀ q ∈ news, q.1 ≠ sd) (hat : At line p rest) (hlen : line.length ≤ 16777216) {r1 : List Nat} (hdr : rest.dropWhile isBlank = r1) :
    Does w mean mg mb 185 [.ref sc] ((sd, scanObj h1 h2 k1 k2 line t p u) :: news) 4 40 (fun led' r => r = .bool r1.isEmpty ∧ ∃ p' u', led' = (sd, scanObj h1 h2 k1 k2 line t p' u') :: news ∧ At line p' r1) := by
  unfold Does
  k_fill
  intro dp un gd cn cs a ccd cl outer A₀ base h₀ L m s Q E B F X N T hk hd hu hret
  refine wpAny_call ?_
  k_dflt ktr_enter
  cases r1 with
  | nil =>
    k_steps
    refine hret _ _ _ _ (by k_asm) (by k_asm) ⟨?_, _, _, rfl, by assumption⟩
    simp_all
  | cons c r2 =>
    k_steps
    refine hret _ _ _ _ (by k_asm) (by k_asm) ⟨?_, _, _, rfl, by assumption⟩
    simp; omega

local macro_rules | `(tactic| walk_at "call ref") => `(tactic| (k_here; (with_reducible show wpAny _ _ (PySem.call (Value.ref 185) _ _) _ _ _); k_dflt (refine' Does.auto (atEnd_does ?sc ?sd ?kAt ?len ?kDr) ?hd ?hu ?_; (case sc => k_mem); (case sd => walk_at "hsd"); (case kAt => assumption); (case len => assumption); (case kDr => assumption); (case hd => ktr_room); (case hu => ktr_units); k_whole); rintro _ _ h' tk' F' N' ⟨e1, p', u', e2, hat'⟩; subst e1; subst e2; (try simp only [List.isEmpty_cons, List.isEmpty_nil]); (have hdr2 := dropBlank_idem (by assumption)); (first | (have hats := At.cons hat'; obtain ⟨hp0, hp1, hc', hat2⟩ := hats) | (have hats := At.nil hat'; obtain ⟨hp0, hp1⟩ := hats) | skip); (try k_sweep)))

noncomputable def signOf : List Nat → List Nat × List Nat
  | [] => ([], [])
  | [c] => ([c], [])
  | c :: d :: r => if c = 62 ∧ d = 62 then ([62, 62], r) else ([c], d :: r)

theorem gt_eq (c : Nat) : (Str.mk #[c] == Str.ofString ">") = (c == 62) := by
  have e : Str.ofString ">" = Str.mk #[62] := by decide +kernel
  rw [e, Bool.eq_iff_iff, beq_iff_eq, beq_iff_eq]
  simp
theorem str_val {x y : Str} {t : Tok} (h : x = y) : Value.str x t = Value.str y t := by rw [h]
theorem gtgt_eq : Str.ofString ">>" = Str.mk #[62, 62] := by decide +kernel

theorem sign_does {w : World} {mean : ExcName → Option Value} {mg mb : Str → Option Value} {sc sd : Addr} {h1 h2 : Int} {k1 k2 : Tok} {line : Str} {t : Tok} {p : Int} {u : Tok} {c : Nat} {rest : List Nat} {news : List (Addr × Obj)}
    {sg r3 : List Nat} (hsg : signOf (c :: rest) = (sg, r3)) (hsc : (sc, instObj 209 sd) ∈ news) (hsd : ∀ q ∈ news, q.1 ≠ sd) (hat : At line p (c :: rest)) (hlen : line.length ≤ 16777216) :
    Does w mean mg mb 192 [.ref sc] ((sd, scanObj h1 h2 k1 k2 line t p u) :: news) 4 40 (fun led' r => (∃ ts, r = .str ⟨sg.toArray⟩ ts) ∧ ∃ p' u', led' = (sd, scanObj h1 h2 k1 k2 line t p' u') :: news ∧ At line p' r3) := by
  obtain ⟨rfl, rfl⟩ : (signOf (c :: rest)).1 = sg ∧ (signOf (c :: rest)).2 = r3 := by rw [hsg]; exact ⟨rfl, rfl⟩
  clear hsg
  unfold Does
  k_fill
  intro dp un gd cn cs a ccd cl outer A₀ base h₀ L m s Q E B F X N T hk hd hu hret
  obtain ⟨hp0, hp1, hc, hat2⟩ := hat.cons
  refine wpAny_call ?_
  k_dflt ktr_enter
  cases rest with
  | nil =>
    obtain ⟨hp2, hp3⟩ := hat2.nil
    k_steps
    all_goals (refine hret _ _ _ _ (by k_asm) (by k_asm) ⟨⟨_, rfl⟩, _, _, rfl, hat2⟩)
  | cons d r2 =>
    obtain ⟨hp2, hp3, hc2, hat3⟩ := hat2.cons
    k_steps
    all_goals (simp only [gt_eq, beq_iff_eq, beq_eq_false_iff_ne] at *)
    · refine hret _ _ _ _ (by k_asm) (by k_asm) ⟨⟨_, str_val ?_⟩, _, _, rfl, ?_⟩
      · rw [gtgt_eq]; simp only [signOf]; rw [if_pos ⟨by assumption, by assumption⟩]
      · simp only [signOf]; rw [if_pos ⟨by assumption, by assumption⟩]; exact hat3
    · refine hret _ _ _ _ (by k_asm) (by k_asm) ⟨⟨_, str_val ?_⟩, _, _, rfl, ?_⟩
      · simp only [signOf]; rw [if_neg (by simp_all)]
      · simp only [signOf]; rw [if_neg (by simp_all)]; exact hat2
    · refine hret _ _ _ _ (by k_asm) (by k_asm) ⟨⟨_, str_val ?_⟩, _, _, rfl, ?_⟩
      · simp only [signOf]; rw [if_neg (by simp_all)]
      · simp only [signOf]; rw [if_neg (by simp_all)]; exact hat2

local macro_rules | `(tactic| walk_at "call ref") => `(tactic| (k_here; (with_reducible show wpAny _ _ (PySem.call (Value.ref 192) _ _) _ _ _); k_dflt (refine' Does.auto (sign_does ?ksg ?sc ?sd ?kAt ?len) ?hd ?hu ?_; (case sc => k_mem); (case sd => walk_at "hsd"); (case kAt => assumption); (case ksg => assumption); (case len => assumption); (case hd => ktr_room); (case hu => ktr_units); k_whole); rintro _ _ h' tk' F' N' ⟨⟨ts', e1⟩, p', u', e2, hat'⟩; subst e1; subst e2; (try k_sweep)))

noncomputable def isSign (c : Nat) : Bool := c == 60 || c == 124 || c == 62 || c == 38 || c == 59 || c == 40 || c == 41

theorem signs_eq : (Str.ofString "<|>&;()") = Str.mk #[60, 124, 62, 38, 59, 40, 41] := by decide +kernel
theorem blanks_eq : (Str.ofString " \t\x0d\n\x0b") = Str.mk #[32, 9, 13, 10, 11] := by decide +kernel
theorem mem_signs (c : Nat) : decide (c ∈ (Str.ofString "<|>&;()").cps.toList) = isSign c := by
  rw [signs_eq]
  unfold isSign
  rw [Bool.eq_iff_iff, decide_eq_true_eq]
  simp only [List.mem_cons, List.not_mem_nil, or_false, Bool.or_eq_true, beq_iff_eq, or_assoc]

section
variable {prog : Program} {w : World} {A : Around} {E : Value → Shared → Prop} {s : Shared}
theorem notIn_signs {c : Nat} {t u : Tok} {Q : Value → Shared → Prop} (h : Q (.bool (!isSign c)) s) : wpAny (model prog w) A (compareOp .NotIn (.str ⟨#[c]⟩ u) (.str (Str.ofString "<|>&;()") t)) Q E s := by
  refine notIn_one ?_
  rw [mem_signs]; exact h
end
local macro_rules | `(tactic| walk_at "compareOp NotIn str str") => `(tactic| (k_here; ((with_reducible show wpAny _ _ (compareOp _ (Value.str (Str.mk _) _) (Value.str (Str.ofString "<|>&;()") _)) _ _ _); k_dflt (refine notIn_signs ?_))))

noncomputable def wordNext : List Nat → Bool
  | [] => false
  | c :: _ => !isSign c

theorem isWord_does {w : World} {mean : ExcName → Option Value} {mg mb : Str → Option Value} {sc sd : Addr} {h1 h2 : Int} {k1 k2 : Tok} {line : Str} {t : Tok} {p : Int} {u : Tok} {rest : List Nat} {news : List (Addr × Obj)}
    (hsc : (sc, instObj 209 sd) ∈ news) (hsd : ∀ q ∈ news, q.1 ≠ sd) (hat : At line p rest) (hlen : line.length ≤ 16777216) {r1 : List Nat} (hdr : rest.dropWhile isBlank = r1) {b : Bool} (hb : wordNext r1 = b) :
    Does w mean mg mb 199 [.ref sc] ((sd, scanObj h1 h2 k1 k2 line t p u) :: news) 6 60 (fun led' r => r = .bool b ∧ ∃ p' u', led' = (sd, scanObj h1 h2 k1 k2 line t p' u') :: news ∧ At line p' r1) := by
  subst hb
  unfold Does
  k_fill
  intro dp un gd cn cs a ccd cl outer A₀ base h₀ L m s Q E B F X N T hk hd hu hret
  refine wpAny_call ?_
  k_dflt ktr_enter
  cases r1 with
  | nil =>
    k_steps
    all_goals (refine hret _ _ _ _ (by k_asm) (by k_asm) ⟨rfl, _, _, rfl, by assumption⟩)
  | cons c r2 =>
    k_steps
    all_goals (refine hret _ _ _ _ (by k_asm) (by k_asm) ⟨rfl, _, _, rfl, by assumption⟩)

local macro_rules | `(tactic| walk_at "call ref") => `(tactic| (k_here; (with_reducible show wpAny _ _ (PySem.call (Value.ref 199) _ _) _ _ _); k_dflt (refine' Does.auto (isWord_does ?sc ?sd ?kAt ?len ?kDr ?kHb) ?hd ?hu ?_; (case sc => k_mem); (case sd => walk_at "hsd"); (case kAt => assumption); (case len => assumption); (case kDr => assumption); (case kHb => first | assumption | exact rfl); (case hd => ktr_room); (case hu => ktr_units); k_whole); rintro _ _ h' tk' F' N' ⟨e1, p', u', e2, hat'⟩; subst e1; subst e2; (have hdr2 := dropBlank_idem (by assumption)); (try k_sweep)))

noncomputable def isWordCh (c : Nat) : Bool := !(isBlank c || isSign c)

theorem takeDrop_of {pre r' : List Nat} (h : ∀ c ∈ pre, isWordCh c = true) (hr : ∀ c r2, r' = c :: r2 → isWordCh c = false) : (pre ++ r').takeWhile isWordCh = pre ∧ (pre ++ r').dropWhile isWordCh = r' := by
  induction pre with
  | nil =>
    cases r' with
    | nil => exact ⟨rfl, rfl⟩
    | cons c r2 =>
      have := hr c r2 rfl
      simp [List.takeWhile_cons, List.dropWhile_cons, this]
  | cons d pre ih =>
    have hd := h d (List.mem_cons_self ..)
    have := ih (fun c hc => h c (List.mem_cons_of_mem _ hc))
    simp [List.takeWhile_cons, List.dropWhile_cons, hd, this]

theorem slice_between {line : Str} {p q : Int} {pre r' : List Nat} (h : At line p (pre ++ r')) (hq : q = p + pre.length) : Txt.slice line (some p) (some q) = ⟨pre.toArray⟩ := by
  obtain ⟨h0, h1, h2⟩ := h
  have hl : (line.cps.toList.drop p.toNat).length = pre.length + r'.length := by rw [h2, List.length_append]
  rw [List.length_drop, Array.length_toList] at hl
  unfold Str.length at h1
  have e : Builtin.Str.strSliceIndices (some p) (some q) 1 line.length = (List.range pre.length).map fun k => p.toNat + k := by
    unfold Builtin.Str.strSliceIndices sliceRange Str.length
    simp only [show (1 : Int) > 0 by decide, if_true]
    have e1 : max 0 (min (if p < 0 then p + (line.cps.size : Int) else p) (line.cps.size : Int)) = p := by rw [if_neg (by omega)]; omega
    have e2 : max 0 (min (if q < 0 then q + (line.cps.size : Int) else q) (line.cps.size : Int)) = q := by rw [if_neg (by omega)]; omega
    rw [e1, e2]
    have e3 : (if p < q then (q - p + 1 - 1) / 1 else 0 : Int).toNat = pre.length := by
      split
      · rw [Int.ediv_one]; omega
      · omega
    rw [e3]
    apply List.map_congr_left
    intro k _
    omega
  have e4 : ((List.range pre.length).map fun k => p.toNat + k).filterMap (line.cps[·]?) = pre := by
    have g : ∀ k, line.cps[p.toNat + k]? = (pre ++ r')[k]? := by
      intro k
      rw [← h2, List.getElem?_drop, Array.getElem?_toList]
    rw [List.filterMap_map]
    have g2 : (List.range pre.length).filterMap ((fun x => line.cps[x]?) ∘ fun k => p.toNat + k) = (List.range pre.length).filterMap fun k => pre[k]? := by
      have cg : ∀ (l : List Nat) (f1 f2 : Nat → Option Nat), (∀ k ∈ l, f1 k = f2 k) → l.filterMap f1 = l.filterMap f2 := by
        intro l f1 f2 hh
        induction l with
        | nil => rfl
        | cons a l ih => rw [List.filterMap_cons, List.filterMap_cons, hh a (List.mem_cons_self ..), ih fun k hk => hh k (List.mem_cons_of_mem _ hk)]
      refine cg _ _ _ ?_
      intro k hk
      rw [List.mem_range] at hk
      show line.cps[p.toNat + k]? = pre[k]?
      rw [g, List.getElem?_append_left hk]
    rw [g2]
    clear g g2 e h2 hl h0 h1 hq
    induction pre with
    | nil => rfl
    | cons c pre ih =>
      rw [List.length_cons, List.range_succ_eq_map, List.filterMap_cons]
      simp only [List.getElem?_cons_zero, List.filterMap_map]
      congr 1
  unfold Txt.slice
  rw [e]
  split
  · rename_i hc
    simp only [beq_self_eq_true, Bool.true_and, List.length_map, List.length_range, beq_iff_eq] at hc
    unfold Str.length at hc
    have hp : p.toNat = 0 := by omega
    have hr : r' = [] := List.eq_nil_of_length_eq_zero (by omega)
    subst hr
    rw [hp, List.drop_zero, List.append_nil] at h2
    cases line with
    | mk cps => simp only at h2; rw [← h2]
  · rw [e4]

noncomputable def Halt (P : Prop) : Prop := P
theorem halt {P : Prop} (h : Halt P) : P := h
local macro_rules | `(tactic| walk_at "exec While BoolOp cons nil") => `(tactic| (k_here; refine halt ?_))

theorem occ_stops (c : Nat) : (Builtin.Str.occurrences (Str.ofString " \t\x0d\n\x0b" ++ Str.ofString "<|>&;()") (Str.mk #[c]) 0 (Str.ofString " \t\x0d\n\x0b" ++ Str.ofString "<|>&;()").length 1).isEmpty = isWordCh c := by
  have h := StrLaws.found_one (Str.ofString " \t\x0d\n\x0b" ++ Str.ofString "<|>&;()") c
  have e : Str.ofString " \t\x0d\n\x0b" ++ Str.ofString "<|>&;()" = Str.mk #[32, 9, 13, 10, 11, 60, 124, 62, 38, 59, 40, 41] := by decide +kernel
  have h2 : decide (c ∈ (Str.ofString " \t\x0d\n\x0b" ++ Str.ofString "<|>&;()").cps.toList) = (isBlank c || isSign c) := by
    rw [e]
    unfold isSign isBlank
    rw [Bool.eq_iff_iff, decide_eq_true_eq]
    simp only [List.mem_cons, List.not_mem_nil, or_false, Bool.or_eq_true, beq_iff_eq, or_assoc]
  rw [h2] at h
  unfold isWordCh
  rw [← h, Bool.not_not]

theorem word_does {w : World} {mean : ExcName → Option Value} {mg mb : Str → Option Value} {sc sd : Addr} {h1 h2 : Int} {k1 k2 : Tok} {line : Str} {t : Tok} {p : Int} {u : Tok} {rest : List Nat} {news : List (Addr × Obj)}
    (hsc : (sc, instObj 209 sd) ∈ news) (hsd : ∀ q ∈ news, q.1 ≠ sd) (hat : At line p rest) (hlen : line.length ≤ 16777216) {r1 : List Nat} (hdr : rest.dropWhile isBlank = r1) :
    Does w mean mg mb 206 [.ref sc] ((sd, scanObj h1 h2 k1 k2 line t p u) :: news) 6 60 (fun led' r => (∃ ts, r = .str ⟨(r1.takeWhile isWordCh).toArray⟩ ts) ∧ ∃ p' u', led' = (sd, scanObj h1 h2 k1 k2 line t p' u') :: news ∧ At line p' (r1.dropWhile isWordCh)) := by
  unfold Does
  k_fill
  intro dp un gd cn cs a ccd cl outer A₀ base h₀ L m s Q E B F X N T hk hd hu hret
  refine wpAny_call ?_
  k_dflt ktr_enter
  k_steps
  unfold Halt
  (rename Fr _ _ _ _ => F1)
  (rename News _ _ _ _ => N1)
  (rename At _ _ _ => hat1)
  (rename_i p0 u0 _ _)
  k_dflt (refine' while_led (fun n nx => ∃ (p' : Int) (u' : Tok) (r' pre : List Nat), nx = (sd, scanObj h1 h2 k1 k2 line t p' u') :: news ∧ At line p' r' ∧ r1 = pre ++ r' ∧ (∀ c ∈ pre, isWordCh c = true) ∧ p' = p0 + pre.length ∧ n = r'.length) F1 N1 ⟨p0, u0, r1, [], rfl, hat1, rfl, (fun _ h => nomatch h), (by simp), rfl⟩ ?_ ?hE; (case hE => first | passes_own | with_unfolding_all passes_own))
  clear F1 N1
  rintro n nx h1' tk1 F2 N2 ⟨p', u', r', pre, rfl, hat', hr', hpre, hpp, rfl⟩
  (try k_fold)
  cases r' with
  | nil =>
    obtain ⟨hp0, hp1⟩ := hat'.nil
    k_steps
    refine hret _ _ _ _ (by k_asm) (by k_asm) ⟨⟨_, str_val ?_⟩, _, _, rfl, ?_⟩
    · rw [slice_between (by rw [← hr']; exact hat1) hpp, hr', (takeDrop_of hpre (by intro _ _ h; cases h)).1]
    · rw [hr', (takeDrop_of hpre (by intro _ _ h; cases h)).2]; exact hat'
  | cons c r2 =>
    obtain ⟨hp0, hp1, hc, hat2⟩ := hat'.cons
    k_steps
    · (rename _ = true => hw)
      rw [occ_stops] at hw
      exact ⟨_, _, _, _, r2.length, rfl, by k_asm, by k_asm, Nat.lt_succ_self _, rfl, _, _, r2, pre ++ [c], rfl, hat2, by rw [hr', List.append_assoc]; rfl,
        fun d hd => (List.mem_append.mp hd).elim (hpre d) (fun h => by rw [List.mem_singleton.mp h]; exact hw), by rw [List.length_append, List.length_singleton, hpp]; omega, rfl⟩
    · (rename _ = false => hw)
      rw [occ_stops] at hw
      have hn : ∀ d r3, c :: r2 = d :: r3 → isWordCh d = false := fun d r3 e => by injection e with e1 e2; rw [← e1]; exact hw
      refine hret _ _ _ _ (by k_asm) (by k_asm) ⟨⟨_, str_val ?_⟩, _, _, rfl, ?_⟩
      · rw [slice_between (by rw [← hr']; exact hat1) hpp, hr', (takeDrop_of hpre hn).1]
      · rw [hr', (takeDrop_of hpre hn).2]; exact hat'

local macro_rules | `(tactic| walk_at "call ref") => `(tactic| (k_here; (with_reducible show wpAny _ _ (PySem.call (Value.ref 206) _ _) _ _ _); k_dflt (refine' Does.auto (word_does ?sc ?sd ?kAt ?len ?kDr) ?hd ?hu ?_; (case sc => k_mem); (case sd => walk_at "hsd"); (case kAt => assumption); (case len => assumption); (case kDr => assumption); (case hd => ktr_room); (case hu => ktr_units); k_whole); rintro _ _ h' tk' F' N' ⟨⟨ts', e1⟩, p', u', e2, hat'⟩; subst e1; subst e2; (try k_sweep)))

inductive Tree where
  | run (args : List (List Nat))
  | lead (t : Tree) (path : List Nat) (k : Nat)
  | back (t : Tree)
  | pair (pipe : Bool) (l r : Tree)

noncomputable def S (l : List Nat) : Str := ⟨l.toArray⟩
noncomputable def modeOf (k : Nat) : Int := if k = 0 then 0 else if k = 1 then 1537 else 2561
noncomputable def whereOf (k : Nat) : Int := if k = 0 then 0 else 1
noncomputable def signStr (pipe : Bool) : Str := if pipe then Str.ofString "|" else Str.ofString ";"

noncomputable abbrev runDict (h : Int) (k : Tok) (al : Addr) : Obj := dictOf [⟨h, .str "arguments" k, .ref al⟩] 1
noncomputable abbrev leadDict (h1 h2 h3 h4 : Int) (k1 k2 k3 k4 : Tok) (v p m d : Value) : Obj :=
  dictOf [⟨h1, .str "command" k1, v⟩, ⟨h2, .str "path" k2, p⟩, ⟨h3, .str "mode" k3, m⟩, ⟨h4, .str "descriptor" k4, d⟩] 4
noncomputable abbrev backDict (h : Int) (k : Tok) (v : Value) : Obj := dictOf [⟨h, .str "command" k, v⟩] 1
noncomputable abbrev pairDict (h1 h2 h3 : Int) (k1 k2 k3 : Tok) (g l r : Value) : Obj :=
  dictOf [⟨h1, .str "sign" k1, g⟩, ⟨h2, .str "left" k2, l⟩, ⟨h3, .str "right" k3, r⟩] 3

theorem of_allLt {d : Addr} : ∀ {l : List (Addr × Obj)}, AllLt d l → ∀ p ∈ l, p.1 < d
  | [], _, _, hp => (nomatch hp)
  | q :: r, h, p, hp => by
    rcases List.mem_cons.mp hp with rfl | hp
    · exact h.1
    · exact of_allLt h.2 p hp

theorem back_makes {w : World} {mean : ExcName → Option Value} {mg mb : Str → Option Value} {v : Value} {led : List (Addr × Obj)} :
    Does w mean mg mb 146 [v] led 4 40 (fun led' r => ∃ (x dx : Addr) (h : Int) (k : Tok), r = .ref x ∧ led' = (x, instObj 146 dx) :: (dx, backDict h k v) :: led ∧ (∀ p ∈ led, p.1 < dx) ∧ dx < x) := by
  unfold Does
  k_fill
  intro dp un gd cn cs a ccd cl outer A₀ base h₀ L m s Q E B F X N T hk hd hu hret
  k_dflt (refine' call_cls ?k1 ?k2 ?k3 ?k4 ?k5 ?k6 ?_; (case k1 => k_asm); (case k2 => k_asm); (case k3 => k_asm); (case k4 => k_is); (case k5 => k_is); (case k6 => k_is); k_whole)
  intro x' d' h' F' N' l1 l2
  have l3 : ∀ p ∈ led, p.1 ≠ d' := fun p hp => Nat.ne_of_lt (l1 p hp)
  (try k_lt2 l2)
  k_dflt ktr_enter
  k_steps
  exact hret _ _ _ _ (by k_asm) (by k_asm) ⟨_, _, _, _, rfl, rfl, l1, l2⟩

theorem pair_makes {w : World} {mean : ExcName → Option Value} {mg mb : Str → Option Value} {g v1 v2 : Value} {led : List (Addr × Obj)} :
    Does w mean mg mb 125 [g, v1, v2] led 4 40 (fun led' r => ∃ (x dx : Addr) (h1 h2 h3 : Int) (k1 k2 k3 : Tok), r = .ref x ∧ led' = (x, instObj 125 dx) :: (dx, pairDict h1 h2 h3 k1 k2 k3 g v1 v2) :: led ∧ (∀ p ∈ led, p.1 < dx) ∧ dx < x) := by
  unfold Does
  k_fill
  intro dp un gd cn cs a ccd cl outer A₀ base h₀ L m s Q E B F X N T hk hd hu hret
  k_dflt (refine' call_cls ?k1 ?k2 ?k3 ?k4 ?k5 ?k6 ?_; (case k1 => k_asm); (case k2 => k_asm); (case k3 => k_asm); (case k4 => k_is); (case k5 => k_is); (case k6 => k_is); k_whole)
  intro x' d' h' F' N' l1 l2
  have l3 : ∀ p ∈ led, p.1 ≠ d' := fun p hp => Nat.ne_of_lt (l1 p hp)
  (try k_lt2 l2)
  k_dflt ktr_enter
  k_steps
  exact hret _ _ _ _ (by k_asm) (by k_asm) ⟨_, _, _, _, _, _, _, _, rfl, rfl, l1, l2⟩

theorem lead_makes {w : World} {mean : ExcName → Option Value} {mg mb : Str → Option Value} {v1 v2 v3 v4 : Value} {led : List (Addr × Obj)} :
    Does w mean mg mb 104 [v1, v2, v3, v4] led 4 40 (fun led' r => ∃ (x dx : Addr) (h1 h2 h3 h4 : Int) (k1 k2 k3 k4 : Tok), r = .ref x ∧ led' = (x, instObj 104 dx) :: (dx, leadDict h1 h2 h3 h4 k1 k2 k3 k4 v1 v2 v3 v4) :: led ∧ (∀ p ∈ led, p.1 < dx) ∧ dx < x) := by
  unfold Does
  k_fill
  intro dp un gd cn cs a ccd cl outer A₀ base h₀ L m s Q E B F X N T hk hd hu hret
  k_dflt (refine' call_cls ?k1 ?k2 ?k3 ?k4 ?k5 ?k6 ?_; (case k1 => k_asm); (case k2 => k_asm); (case k3 => k_asm); (case k4 => k_is); (case k5 => k_is); (case k6 => k_is); k_whole)
  intro x' d' h' F' N' l1 l2
  have l3 : ∀ p ∈ led, p.1 ≠ d' := fun p hp => Nat.ne_of_lt (l1 p hp)
  (try k_lt2 l2)
  k_dflt ktr_enter
  k_steps
  exact hret _ _ _ _ (by k_asm) (by k_asm) ⟨_, _, _, _, _, _, _, _, _, _, rfl, rfl, l1, l2⟩

theorem scan_makes {w : World} {mean : ExcName → Option Value} {mg mb : Str → Option Value} {line : Str} {t : Tok} {led : List (Addr × Obj)} :
    Does w mean mg mb 209 [.str line t] led 4 40 (fun led' r => ∃ (x dx : Addr) (h1 h2 : Int) (k1 k2 u : Tok), r = .ref x ∧ led' = (x, instObj 209 dx) :: (dx, scanObj h1 h2 k1 k2 line t 0 u) :: led ∧ (∀ p ∈ led, p.1 < dx) ∧ dx < x) := by
  unfold Does
  k_fill
  intro dp un gd cn cs a ccd cl outer A₀ base h₀ L m s Q E B F X N T hk hd hu hret
  k_dflt (refine' call_cls ?k1 ?k2 ?k3 ?k4 ?k5 ?k6 ?_; (case k1 => k_asm); (case k2 => k_asm); (case k3 => k_asm); (case k4 => k_is); (case k5 => k_is); (case k6 => k_is); k_whole)
  intro x' d' h' F' N' l1 l2
  have l3 : ∀ p ∈ led, p.1 ≠ d' := fun p hp => Nat.ne_of_lt (l1 p hp)
  (try k_lt2 l2)
  k_dflt ktr_enter
  k_steps
  exact hret _ _ _ _ (by k_asm) (by k_asm) ⟨_, _, _, _, _, _, _, rfl, rfl, l1, l2⟩

local macro_rules | `(tactic| walk_at "call type:list") => `(tactic| (k_here; (with_reducible show wpAny _ _ (PySem.call (Value.type _) [Value.ref _]) _ _ _); k_dflt (refine' list_copyK ?k1 ?k2 ?k3 ?_ ?z; (case k1 => k_asm); (case k2 => k_asm); (case k3 => exact News.isList (by k_asm) (by k_mem)); (case z => (rw [List.size_toArray, sizeLine_eq]; omega)); k_whole); intro D' c' h' F' N' l1; (try k_lt l1); (try k_sweep)))
theorem run_makes {w : World} {mean : ExcName → Option Value} {mg mb : Str → Option Value} {a0 : Addr} {vs : List Value} {n0 : Nat} {led : List (Addr × Obj)} (hl0 : (a0, listOf vs.toArray n0) ∈ led) (hvs : vs.length ≤ 1000) :
    Does w mean mg mb 83 [.ref a0] led 4 40 (fun led' r => ∃ (x dx al : Addr) (h : Int) (k : Tok) (n : Nat), r = .ref x ∧ led' = (al, listOf vs.toArray n) :: (x, instObj 83 dx) :: (dx, runDict h k al) :: led ∧ (∀ p ∈ led, p.1 < dx) ∧ dx < x ∧ x < al) := by
  unfold Does
  k_fill
  intro dp un gd cn cs a ccd cl outer A₀ base h₀ L m s Q E B F X N T hk hd hu hret
  k_dflt (refine' call_cls ?k1 ?k2 ?k3 ?k4 ?k5 ?k6 ?_; (case k1 => k_asm); (case k2 => k_asm); (case k3 => k_asm); (case k4 => k_is); (case k5 => k_is); (case k6 => k_is); k_whole)
  intro x' d' h' F' N' l1 l2
  have l3 : ∀ p ∈ led, p.1 ≠ d' := fun p hp => Nat.ne_of_lt (l1 p hp)
  (try k_lt2 l2)
  k_dflt ktr_enter
  k_steps
  (rename _ ∧ _ ∧ AllLt _ _ => l9)
  exact hret _ _ _ _ (by k_asm) (by k_asm) ⟨_, _, _, _, _, _, rfl, rfl, l1, l2, l9.1⟩

local macro_rules | `(tactic| walk_at "call ref") => `(tactic| (k_here; (with_reducible show wpAny _ _ (PySem.call (Value.ref 146) _ _) _ _ _); k_dflt (refine' Does.auto back_makes ?hd ?hu ?_; (case hd => ktr_room); (case hu => ktr_units); k_whole); rintro _ _ h' tk' F' N' ⟨x', d', a0', a1', e1, e2, l1, l2⟩; subst e1; subst e2; (try k_sweep)))
local macro_rules | `(tactic| walk_at "call ref") => `(tactic| (k_here; (with_reducible show wpAny _ _ (PySem.call (Value.ref 125) _ _) _ _ _); k_dflt (refine' Does.auto pair_makes ?hd ?hu ?_; (case hd => ktr_room); (case hu => ktr_units); k_whole); rintro _ _ h' tk' F' N' ⟨x', d', a0', a1', a2', a3', a4', a5', e1, e2, l1, l2⟩; subst e1; subst e2; (try k_sweep)))
local macro_rules | `(tactic| walk_at "call ref") => `(tactic| (k_here; (with_reducible show wpAny _ _ (PySem.call (Value.ref 104) _ _) _ _ _); k_dflt (refine' Does.auto lead_makes ?hd ?hu ?_; (case hd => ktr_room); (case hu => ktr_units); k_whole); rintro _ _ h' tk' F' N' ⟨x', d', a0', a1', a2', a3', a4', a5', a6', a7', e1, e2, l1, l2⟩; subst e1; subst e2; (try k_sweep)))
local macro_rules | `(tactic| walk_at "call ref") => `(tactic| (k_here; (with_reducible show wpAny _ _ (PySem.call (Value.ref 209) _ _) _ _ _); k_dflt (refine' Does.auto scan_makes ?hd ?hu ?_; (case hd => ktr_room); (case hu => ktr_units); k_whole); rintro _ _ h' tk' F' N' ⟨x', d', a0', a1', a2', a3', a4', e1, e2, l1, l2⟩; subst e1; subst e2; (try k_sweep)))
local macro_rules | `(tactic| walk_at "call ref") => `(tactic| (k_here; (with_reducible show wpAny _ _ (PySem.call (Value.ref 83) _ _) _ _ _); k_dflt (refine' Does.auto (run_makes ?kl0 ?kvs) ?hd ?hu ?_; (case kl0 => k_mem); (case kvs => first | decide | (simp only [List.length_cons, List.length_nil]; omega) | omega); (case hd => ktr_room); (case hu => ktr_units); k_whole); rintro _ _ h' tk' F' N' ⟨x', d', al', a1', a2', a3', e1, e2, l1, l2, l3⟩; subst e1; subst e2; (try k_sweep)))

noncomputable abbrev skip (r : List Nat) : List Nat := r.dropWhile isBlank
noncomputable def kindOf (sg : List Nat) : Nat := if sg = [60] then 0 else if sg = [62] then 1 else 2

noncomputable def redirs : Nat → List (List Nat × Nat) → List Nat → Option (List (List Nat × Nat) × List Nat)
  | 0, _, _ => none
  | n + 1, acc, r => match skip r with
    | [] => some (acc, [])
    | c :: r2 => if c = 60 ∨ c = 62 then
        (match skip (signOf (c :: r2)).2 with
         | [] => none
         | d :: r4 => if isSign d then none else redirs n (acc ++ [((d :: r4).takeWhile isWordCh, kindOf (signOf (c :: r2)).1)]) ((d :: r4).dropWhile isWordCh))
      else some (acc, c :: r2)

inductive Wrapped (led : List (Addr × Obj)) : Value → List (List Nat × Nat) → Value → Prop where
  | nil {v : Value} : Wrapped led v [] v
  | snoc {v v1 : Value} {reds : List (List Nat × Nat)} {path : List Nat} {k : Nat} {x dx : Addr} {h1 h2 h3 h4 : Int} {k1 k2 k3 k4 t1 t2 t3 : Tok} :
    Wrapped led v reds v1 → (x, instObj 104 dx) ∈ led → (dx, leadDict h1 h2 h3 h4 k1 k2 k3 k4 v1 (.str (S path) t1) (.int (modeOf k) t2) (.int (whereOf k) t3)) ∈ led →
    Wrapped led v (reds ++ [(path, k)]) (.ref x)
theorem Wrapped.mono {led led' : List (Addr × Obj)} (hs : ∀ p ∈ led, p ∈ led') {v v' : Value} {reds : List (List Nat × Nat)} (h : Wrapped led v reds v') : Wrapped led' v reds v' := by
  induction h with
  | nil => exact .nil
  | snoc _ hx hd ih => exact .snoc ih (hs _ hx) (hs _ hd)

noncomputable def Above (tl : List (Addr × Obj)) (d : Addr) (news : List (Addr × Obj)) : Prop := ∀ q ∈ tl, d < q.1 ∧ ∀ p ∈ news, p.1 < q.1
theorem Above.nil {d : Addr} {news : List (Addr × Obj)} : Above [] d news := fun _ h => nomatch h
theorem Above.ne {tl : List (Addr × Obj)} {d : Addr} {news : List (Addr × Obj)} (h : Above tl d news) (hn : ∀ q ∈ news, q.1 ≠ d) : ∀ q ∈ tl ++ news, q.1 ≠ d := by
  intro q hq
  rcases List.mem_append.mp hq with hq | hq
  · exact Nat.ne_of_gt (h q hq).1
  · exact hn q hq

theorem Wrapped.step {led : List (Addr × Obj)} {v v1 : Value} {reds : List (List Nat × Nat)} {path : List Nat} {k : Nat} {x dx : Addr} {h1 h2 h3 h4 : Int} {k1 k2 k3 k4 t1 t2 t3 : Tok} {mo wh : Int}
    (hw : Wrapped led v reds v1) (hx : (x, instObj 104 dx) ∈ led) (hd : (dx, leadDict h1 h2 h3 h4 k1 k2 k3 k4 v1 (.str ⟨path.toArray⟩ t1) (.int mo t2) (.int wh t3)) ∈ led)
    (hm : mo = modeOf k) (hw' : wh = whereOf k) : Wrapped led v (reds ++ [(path, k)]) (.ref x) := by
  subst hm; subst hw'; exact .snoc hw hx hd

theorem Above.two {x dx sd : Addr} {o1 o2 S : Obj} {tl news : List (Addr × Obj)} (hab : Above tl sd news) (l1 : ∀ p ∈ (sd, S) :: (tl ++ news), p.1 < dx) (l2 : dx < x) : Above ((x, o1) :: (dx, o2) :: tl) sd news := by
  have h0 : sd < dx := l1 _ (List.mem_cons_self ..)
  have hn : ∀ p ∈ news, p.1 < dx := fun p hp => l1 p (List.mem_cons_of_mem _ (List.mem_append.mpr (.inr hp)))
  intro q hq
  rcases List.mem_cons.mp hq with rfl | hq
  · exact ⟨Nat.lt_trans h0 l2, fun p hp => Nat.lt_trans (hn p hp) l2⟩
  · rcases List.mem_cons.mp hq with rfl | hq
    · exact ⟨h0, hn⟩
    · exact hab q hq
theorem News.rot2 {h₀ h : Heap} {L : Addr} {a b c : Addr × Obj} {tl news : List (Addr × Obj)} (N : News h₀ L h (a :: b :: c :: (tl ++ news))) : News h₀ L h (c :: ((a :: b :: tl) ++ news)) := by
  intro p hp
  refine N p ?_
  simp only [List.mem_cons, List.mem_append, List.cons_append] at hp ⊢
  rcases hp with h | h | h | h | h <;> simp only [h, true_or, or_true]

section
variable {prog : Program} {w : World} {A : Around} {E : Value → Shared → Prop} {Q : Flow → Shared → Prop} {s : Shared} {env : Env} {h₀ : Heap} {L : Addr}
noncomputable def OnePost (h₀ : Heap) (L : Addr) (s : Shared) (y : Str) (stored : List Str) (m₀ : Str → Option Value) (P : Nat → Value → List (Addr × Obj) → Prop) (Q : Flow → Shared → Prop) (n : Nat) (f : Flow) (s₃ : Shared) : Prop :=
  match f with
  | .next | .cont => ∃ h' tk m₂ nx v n', s₃ = { s with heap := h', toks := tk } ∧ Fr h₀ L h' m₂ ∧ News h₀ L h' nx ∧ n' < n ∧ m₂ y = some v ∧ (∀ x, x ≠ y → stored.contains x = false → m₂ x = m₀ x) ∧ P n' v nx
  | .brk => Q .next s₃
  | .ret v => Q (.ret v) s₃

theorem while_one {test : PySem.Expr} {body : List Stmt} {pos : Pos} {m₀ : Str → Option Value} {news : List (Addr × Obj)} (y : Str) (stored : List Str) (P : Nat → Value → List (Addr × Obj) → Prop) {n₀ : Nat} {v₀ : Value}
    (F : Fr h₀ L s.heap m₀) (N : News h₀ L s.heap news) (hy : m₀ y = some v₀) (hP : P n₀ v₀ news)
    (turn : ∀ n v (u : Str → Option Value) nx h tk, Fr h₀ L h (fun x => if x = y then some v else if stored.contains x then u x else m₀ x) → News h₀ L h nx → P n v nx →
      wpAny (model prog w) A (isTrue test env (eval test env)) (fun b s₂ =>
        if b = true then wpAny (model prog w) A (execs body env) (OnePost h₀ L s y stored m₀ P Q n) E s₂ else Q .next s₂) E { s with heap := h, toks := tk })
    (hE : PassesOwn (model prog w) A env E := by passes_own) :
    wpAny (model prog w) A (exec (.While test body [] pos) env) Q E s := by
  refine While_inv2 (fun n m nx => ∃ v, m y = some v ∧ (∀ x, x ≠ y → stored.contains x = false → m x = m₀ x) ∧ P n v nx) F N ⟨v₀, hy, fun _ _ _ => rfl, hP⟩ ?_ hE
  rintro n m₁ nx h tk F₁ N₁ ⟨v, hv, hm, hp⟩
  have e : (fun x => if x = y then some v else if stored.contains x then m₁ x else m₀ x) = m₁ := by
    funext x
    by_cases h1 : x = y
    · subst h1; simp [hv]
    · simp only [if_neg h1]
      cases h9 : stored.contains x with
      | true => simp
      | false => simp only [Bool.false_eq_true, if_false]; exact (hm x h1 h9).symm
  refine wpAny_mono (turn n v m₁ nx h tk (by rw [e]; exact F₁) N₁ hp) (fun b s₂ p => ?_) fun _ _ x => x
  cases b with
  | false => simpa using p
  | true =>
    simp only [if_true] at p ⊢
    refine wpAny_mono p (fun f s₃ q => ?_) fun _ _ x => x
    cases f with
    | ret v => exact q
    | brk => exact q
    | next =>
      obtain ⟨h', tk', m₂, nx', v', n', rfl, F', N', hn, hv', hm', hp'⟩ := q
      exact ⟨h', tk', m₂, nx', n', rfl, F', N', hn, v', hv', hm', hp'⟩
    | cont =>
      obtain ⟨h', tk', m₂, nx', v', n', rfl, F', N', hn, hv', hm', hp'⟩ := q
      exact ⟨h', tk', m₂, nx', n', rfl, F', N', hn, v', hv', hm', hp'⟩
end
local macro_rules | `(tactic| walk_at "exec While Call cons nil") => `(tactic| (k_here; refine halt ?_))

theorem head_lg (c : Nat) : decide (c ∈ (Str.ofString "<>").cps.toList) = (c == 60 || c == 62) := by
  have e : Str.ofString "<>" = Str.mk #[60, 62] := by decide +kernel
  rw [e, Bool.eq_iff_iff, decide_eq_true_eq]
  simp only [List.mem_cons, List.not_mem_nil, or_false, Bool.or_eq_true, beq_iff_eq]

theorem redirs_does {w : World} {mean : ExcName → Option Value} {mg mb : Str → Option Value} {sc sd : Addr} {h1 h2 : Int} {k1 k2 : Tok} {line : Str} {t : Tok} {p : Int} {u : Tok} {rest : List Nat} {news : List (Addr × Obj)} {v : Value}
    {n : Nat} {reds : List (List Nat × Nat)} {rest' : List Nat} (hpar : redirs n [] rest = some (reds, rest'))
    (hsc : (sc, instObj 209 sd) ∈ news) (hsd : ∀ q ∈ news, q.1 ≠ sd) (hat : At line p rest) (hlen : line.length ≤ 16777216) :
    Does w mean mg mb 248 [.ref sc, v] ((sd, scanObj h1 h2 k1 k2 line t p u) :: news) 10 100 (fun led' r => ∃ tl p' u', led' = (sd, scanObj h1 h2 k1 k2 line t p' u') :: (tl ++ news) ∧ Above tl sd news ∧ Wrapped tl v reds r ∧ At line p' rest' ∧ rest'.dropWhile isBlank = rest') := by
  unfold Does
  k_fill
  intro dp un gd cn cs a ccd cl outer A₀ base h₀ L m s Q E B F X N T hk hd hu hret
  refine wpAny_call ?_
  k_dflt ktr_enter
  k_steps
  unfold Halt
  (rename Fr _ _ _ _ => F1)
  (rename News _ _ _ _ => N1)
  k_dflt (refine' while_one (Str.ofString "command") [Str.ofString "sign", Str.ofString "path"] (fun n' v' nx => ∃ (tl : List (Addr × Obj)) (p' : Int) (u' : Tok) (r' : List Nat) (acc : List (List Nat × Nat)), nx = (sd, scanObj h1 h2 k1 k2 line t p' u') :: (tl ++ news) ∧ Above tl sd news ∧ Wrapped tl v acc v' ∧ At line p' r' ∧ redirs n' acc r' = some (reds, rest')) F1 N1 (by exact rfl) ⟨[], p, u, rest, [], rfl, Above.nil, .nil, hat, hpar⟩ ?_ ?hE; (case hE => first | passes_own | with_unfolding_all passes_own))
  clear F1 N1
  rintro n' v' uu nx h1' tk1 F2 N2 ⟨tl, p', u', r', acc, rfl, hab, hwr, hat', hpar'⟩
  have hsd' := hab.ne hsd
  (try k_fold)
  cases n' with
  | zero => cases hpar'
  | succ n' =>
  unfold redirs at hpar'
  cases hr : skip r' with
  | nil =>
    rw [hr] at hpar'
    obtain ⟨rfl, rfl⟩ := Prod.mk.inj (Option.some.inj hpar')
    k_steps
    exact hret _ _ _ _ (by k_asm) (by k_asm) ⟨_, _, _, rfl, hab, hwr, by assumption, rfl⟩
  | cons c r2 =>
    rw [hr] at hpar'
    by_cases hc : c = 60 ∨ c = 62
    · have hin : headIn (Str.ofString "<>") (c :: r2) = true := by rw [headIn, head_lg]; simp [hc]
      simp only [if_pos hc] at hpar'
      cases hr4 : skip (signOf (c :: r2)).2 with
      | nil => rw [hr4] at hpar'; cases hpar'
      | cons d r4 =>
        rw [hr4] at hpar'
        cases hsd1 : isSign d with
        | true => simp only [hsd1, if_true] at hpar'; cases hpar'
        | false =>
        simp only [hsd1, Bool.false_eq_true, if_false] at hpar'
        have hwn : wordNext (d :: r4) = true := by simp [wordNext, hsd1]
        have hsg3 : (c = 60 ∧ signOf (c :: r2) = ([60], r2)) ∨ (c = 62 ∧ signOf (c :: r2) = ([62], r2)) ∨ (c = 62 ∧ ∃ r3, signOf (c :: r2) = ([62, 62], r3)) := by
          rcases hc with rfl | rfl
          · left; refine ⟨rfl, ?_⟩
            cases r2 with
            | nil => rfl
            | cons e r5 => simp [signOf]
          · right
            cases r2 with
            | nil => left; exact ⟨rfl, rfl⟩
            | cons e r5 =>
              by_cases he : e = 62
              · right; exact ⟨rfl, r5, by simp [signOf, he]⟩
              · left; exact ⟨rfl, by simp [signOf, he]⟩
        rcases hsg3 with ⟨rfl, hsg⟩ | ⟨rfl, hsg⟩ | ⟨rfl, r3, hsg⟩
        · rw [hsg] at hr4 hpar'; dsimp only at hr4 hpar'
          k_steps
          exact ⟨_, _, _, _, _, n', rfl, by k_asm, News.rot2 (by k_asm), Nat.lt_succ_self _, by exact rfl, by kwd_same0, _, _, _, _, _, rfl, hab.two (by assumption) (by assumption),
            Wrapped.step (hwr.mono fun _ h => List.mem_cons_of_mem _ (List.mem_cons_of_mem _ h)) (List.mem_cons_self ..) (List.mem_cons_of_mem _ (List.mem_cons_self ..)) (by decide +kernel) (by decide +kernel), by assumption, hpar'⟩
        · rw [hsg] at hr4 hpar'; dsimp only at hr4 hpar'
          k_steps
          exact ⟨_, _, _, _, _, n', rfl, by k_asm, News.rot2 (by k_asm), Nat.lt_succ_self _, by exact rfl, by kwd_same0, _, _, _, _, _, rfl, hab.two (by assumption) (by assumption),
            Wrapped.step (hwr.mono fun _ h => List.mem_cons_of_mem _ (List.mem_cons_of_mem _ h)) (List.mem_cons_self ..) (List.mem_cons_of_mem _ (List.mem_cons_self ..)) (by decide +kernel) (by decide +kernel), by assumption, hpar'⟩
        · rw [hsg] at hr4 hpar'; dsimp only at hr4 hpar'
          k_steps
          exact ⟨_, _, _, _, _, n', rfl, by k_asm, News.rot2 (by k_asm), Nat.lt_succ_self _, by exact rfl, by kwd_same0, _, _, _, _, _, rfl, hab.two (by assumption) (by assumption),
            Wrapped.step (hwr.mono fun _ h => List.mem_cons_of_mem _ (List.mem_cons_of_mem _ h)) (List.mem_cons_self ..) (List.mem_cons_of_mem _ (List.mem_cons_self ..)) (by decide +kernel) (by decide +kernel), by assumption, hpar'⟩
    · have hin : headIn (Str.ofString "<>") (c :: r2) = false := by rw [headIn, head_lg]; simp only [not_or] at hc; simp [hc]
      simp only [if_neg hc] at hpar'
      obtain ⟨rfl, rfl⟩ := Prod.mk.inj (Option.some.inj hpar')
      k_steps
      exact hret _ _ _ _ (by k_asm) (by k_asm) ⟨_, _, _, rfl, hab, hwr, by assumption, by assumption⟩

inductive Words : List Value → List (List Nat) → Prop where
  | nil : Words [] []
  | cons {wd : List Nat} {t : Tok} {vs : List Value} {ws : List (List Nat)} : Words vs ws → Words (.str (S wd) t :: vs) (wd :: ws)
theorem Words.length_eq {vs : List Value} {ws : List (List Nat)} (h : Words vs ws) : vs.length = ws.length := by
  induction h with
  | nil => rfl
  | cons _ ih => rw [List.length_cons, List.length_cons, ih]
theorem Words.snoc {vs : List Value} {ws : List (List Nat)} (h : Words vs ws) (wd : List Nat) (t : Tok) : Words (vs ++ [.str ⟨wd.toArray⟩ t]) (ws ++ [wd]) := by
  induction h with
  | nil => exact .cons .nil
  | cons _ ih => exact .cons ih

inductive TreeIn (led : List (Addr × Obj)) : Value → Tree → Prop where
  | run {x dx al : Addr} {h : Int} {k : Tok} {vs : List Value} {ws : List (List Nat)} {n : Nat} :
    (x, instObj 83 dx) ∈ led → (dx, runDict h k al) ∈ led → (al, listOf vs.toArray n) ∈ led → Words vs ws → TreeIn led (.ref x) (.run ws)
  | lead {v : Value} {t : Tree} {path : List Nat} {k : Nat} {x dx : Addr} {h1 h2 h3 h4 : Int} {k1 k2 k3 k4 t1 t2 t3 : Tok} :
    TreeIn led v t → (x, instObj 104 dx) ∈ led → (dx, leadDict h1 h2 h3 h4 k1 k2 k3 k4 v (.str (S path) t1) (.int (modeOf k) t2) (.int (whereOf k) t3)) ∈ led → TreeIn led (.ref x) (.lead t path k)
  | back {v : Value} {t : Tree} {x dx : Addr} {h : Int} {k : Tok} :
    TreeIn led v t → (x, instObj 146 dx) ∈ led → (dx, backDict h k v) ∈ led → TreeIn led (.ref x) (.back t)
  | pair {v1 v2 : Value} {l r : Tree} {pipe : Bool} {x dx : Addr} {h1 h2 h3 : Int} {k1 k2 k3 tg : Tok} :
    TreeIn led v1 l → TreeIn led v2 r → (x, instObj 125 dx) ∈ led → (dx, pairDict h1 h2 h3 k1 k2 k3 (.str (signStr pipe) tg) v1 v2) ∈ led → TreeIn led (.ref x) (.pair pipe l r)
theorem TreeIn.mono {led led' : List (Addr × Obj)} (hs : ∀ p ∈ led, p ∈ led') {v : Value} {t : Tree} (h : TreeIn led v t) : TreeIn led' v t := by
  induction h with
  | run a b c d => exact .run (hs _ a) (hs _ b) (hs _ c) d
  | lead _ a b ih => exact .lead ih (hs _ a) (hs _ b)
  | back _ a b ih => exact .back ih (hs _ a) (hs _ b)
  | pair _ _ a b ih1 ih2 => exact .pair ih1 ih2 (hs _ a) (hs _ b)

noncomputable def wrapT (t : Tree) (reds : List (List Nat × Nat)) : Tree := reds.foldl (fun t r => .lead t r.1 r.2) t
theorem TreeIn.wrapped {led : List (Addr × Obj)} {v v' : Value} {t : Tree} {reds : List (List Nat × Nat)} (h : TreeIn led v t) (hw : Wrapped led v reds v') : TreeIn led v' (wrapT t reds) := by
  induction hw with
  | nil => exact h
  | snoc _ a b ih =>
    unfold wrapT
    rw [List.foldl_append]
    exact .lead ih a b
theorem Wrapped.trans {led : List (Addr × Obj)} {v v' v'' : Value} {r1 r2 : List (List Nat × Nat)} (h1 : Wrapped led v r1 v') (h2 : Wrapped led v' r2 v'') : Wrapped led v (r1 ++ r2) v'' := by
  induction h2 with
  | nil => rw [List.append_nil]; exact h1
  | snoc _ a b ih => rw [← List.append_assoc]; exact .snoc ih a b

noncomputable def pBacks : Nat → Tree → List Nat → Option (Tree × List Nat)
  | 0, _, _ => none
  | n + 1, t, r => match skip r with
    | [] => some (t, [])
    | c :: r2 => if c = 38 then pBacks n (.back t) r2 else some (t, c :: r2)
noncomputable def stops (c : Nat) : Bool := c == 124 || c == 41 || c == 38 || c == 59
noncomputable def pArgs : Nat → List (List Nat) → List (List Nat × Nat) → List Nat → Option (Tree × List Nat)
  | 0, _, _, _ => none
  | n + 1, args, reds, r => match skip r with
    | [] => some (wrapT (.run args) reds, [])
    | c :: r2 => if stops c then some (wrapT (.run args) reds, c :: r2)
      else if isSign c then none
      else if args.length = 9 then none
      else match redirs n [] ((c :: r2).dropWhile isWordCh) with
        | none => none
        | some (rs, r3) => pArgs n (args ++ [(c :: r2).takeWhile isWordCh]) (reds ++ rs) r3
mutual
noncomputable def pLine : Nat → List Nat → Option (Tree × List Nat)
  | 0, _ => none
  | n + 1, r => match pPipe n r with
    | none => none
    | some (t, r1) => match pBacks n t r1 with
      | none => none
      | some (t2, []) => some (t2, [])
      | some (t2, c :: r3) => if c = 59 then (match pLine n r3 with
          | none => none
          | some (t3, r4) => some (.pair false t2 t3, r4))
        else some (t2, c :: r3)
noncomputable def pPipe : Nat → List Nat → Option (Tree × List Nat)
  | 0, _ => none
  | n + 1, r => match pCmd n r with
    | none => none
    | some (t, r1) => match skip r1 with
      | [] => some (t, [])
      | c :: r2 => if c = 124 then (match pPipe n r2 with
          | none => none
          | some (t2, r3) => some (.pair true t t2, r3))
        else some (t, c :: r2)
noncomputable def pCmd : Nat → List Nat → Option (Tree × List Nat)
  | 0, _ => none
  | n + 1, r => match skip r with
    | [] => (match redirs n [] [] with
      | none => none
      | some (rs, r2) => pArgs n [] rs r2)
    | c :: r1 => if c = 40 then
        (match pLine n r1 with
        | none => none
        | some (t, r2) => match skip r2 with
          | [] => none
          | d :: r3 => if d = 41 then
              (match redirs n [] r3 with
              | none => none
              | some (rs, r4) => some (wrapT t rs, r4))
            else none)
      else match redirs n [] (c :: r1) with
        | none => none
        | some (rs, r2) => pArgs n [] rs r2
end

theorem signOf_one {c : Nat} (h : c ≠ 62) (r : List Nat) : signOf (c :: r) = ([c], r) := by
  cases r with
  | nil => rfl
  | cons d r => simp [signOf, h]

theorem Above.trans {tl1 tl2 : List (Addr × Obj)} {d : Addr} {news : List (Addr × Obj)} (h1 : Above tl1 d news) (h2 : Above tl2 d (tl1 ++ news)) : Above (tl2 ++ tl1) d news := by
  intro q hq
  rcases List.mem_append.mp hq with hq | hq
  · exact ⟨(h2 q hq).1, fun p hp => (h2 q hq).2 p (List.mem_append.mpr (.inr hp))⟩
  · exact h1 q hq
theorem Above.two_a {x dx sd : Addr} {o1 o2 S : Obj} {tl2 tl1 news : List (Addr × Obj)} (hab : Above (tl2 ++ tl1) sd news) (l1 : ∀ p ∈ (sd, S) :: (tl2 ++ (tl1 ++ news)), p.1 < dx) (l2 : dx < x) : Above ((x, o1) :: (dx, o2) :: (tl2 ++ tl1)) sd news :=
  hab.two (S := S) (by rw [List.append_assoc]; exact l1) l2
theorem News.rot2a {h₀ h : Heap} {L : Addr} {a b c : Addr × Obj} {tl2 tl1 news : List (Addr × Obj)} (N : News h₀ L h (a :: b :: c :: (tl2 ++ (tl1 ++ news)))) : News h₀ L h (c :: ((a :: b :: (tl2 ++ tl1)) ++ news)) :=
  News.rot2 (by rw [List.append_assoc]; exact N)
theorem sub_tl {a b : Addr × Obj} {tl2 tl1 : List (Addr × Obj)} : ∀ p ∈ tl1, p ∈ a :: b :: (tl2 ++ tl1) := fun _ hp => List.mem_cons_of_mem _ (List.mem_cons_of_mem _ (List.mem_append.mpr (.inr hp)))
theorem sub_tl2 {a b : Addr × Obj} {tl2 tl1 : List (Addr × Obj)} : ∀ p ∈ tl2, p ∈ a :: b :: (tl2 ++ tl1) := fun _ hp => List.mem_cons_of_mem _ (List.mem_cons_of_mem _ (List.mem_append.mpr (.inl hp)))

noncomputable def ParseOK (f : Addr) (P : Nat → List Nat → Option (Tree × List Nat)) (n : Nat) : Prop :=
  ∀ {w : World} {mean : ExcName → Option Value} {mg mb : Str → Option Value} {sc sd : Addr} {h1 h2 : Int} {k1 k2 : Tok} {line : Str} {t : Tok} {p : Int} {u : Tok} {rest : List Nat} {news : List (Addr × Obj)}
    {tr : Tree} {rest' : List Nat}, P n rest = some (tr, rest') → (sc, instObj 209 sd) ∈ news → (∀ q ∈ news, q.1 ≠ sd) → At line p rest → line.length ≤ 16777216 →
    Does w mean mg mb f [.ref sc] ((sd, scanObj h1 h2 k1 k2 line t p u) :: news) (2 * n + 20) (20 * n + 200) (fun led' r => ∃ tl p' u', led' = (sd, scanObj h1 h2 k1 k2 line t p' u') :: (tl ++ news) ∧ Above tl sd news ∧ TreeIn tl r tr ∧ At line p' rest')
theorem ParseOK.use {f : Addr} {P : Nat → List Nat → Option (Tree × List Nat)} {n : Nat} (H : ParseOK f P n)
  {w : World} {mean : ExcName → Option Value} {mg mb : Str → Option Value} {sc sd : Addr} {h1 h2 : Int} {k1 k2 : Tok} {line : Str} {t : Tok} {p : Int} {u : Tok} {rest : List Nat} {news : List (Addr × Obj)}
    {tr : Tree} {rest' : List Nat} (hp : P n rest = some (tr, rest')) (hsc : (sc, instObj 209 sd) ∈ news) (hsd : ∀ q ∈ news, q.1 ≠ sd) (hat : At line p rest) (hlen : line.length ≤ 16777216) :
    Does w mean mg mb f [.ref sc] ((sd, scanObj h1 h2 k1 k2 line t p u) :: news) (2 * n + 20) (20 * n + 200) (fun led' r => ∃ tl p' u', led' = (sd, scanObj h1 h2 k1 k2 line t p' u') :: (tl ++ news) ∧ Above tl sd news ∧ TreeIn tl r tr ∧ At line p' rest') :=
  H hp hsc hsd hat hlen

local macro_rules | `(tactic| walk_at "call ref") => `(tactic| (k_here; (with_reducible show wpAny _ _ (PySem.call (Value.ref 248) _ _) _ _ _); (refine halt ?_)))
local macro_rules | `(tactic| walk_at "call ref") => `(tactic| (k_here; (with_reducible show wpAny _ _ (PySem.call (Value.ref 248) _ _) _ _ _); k_dflt (refine' Does.auto (redirs_does ?kPar ?sc ?sd ?kAt ?len) ?hd ?hu ?_; (case sc => k_mem); (case sd => walk_at "hsd"); (case kAt => assumption); (case kPar => assumption); (case len => assumption); (case hd => ktr_room); (case hu => ktr_units); k_whole); rintro _ _ h' tk' F' N' ⟨tl', p', u', e2, hab', hwr', hat', hdr2⟩; subst e2; (have hsd2 := Above.ne hab' (by assumption)); (try k_sweep)))
local macro_rules | `(tactic| walk_at "call ref") => `(tactic| (k_here; (first | (with_reducible show wpAny _ _ (PySem.call (Value.ref 234) _ _) _ _ _) | (with_reducible show wpAny _ _ (PySem.call (Value.ref 241) _ _) _ _ _) | (with_reducible show wpAny _ _ (PySem.call (Value.ref 262) _ _) _ _ _)); k_dflt (refine' Does.auto (ParseOK.use ?kOk ?kPar ?sc ?sd ?kAt ?len) ?hd ?hu ?_; (case kOk => assumption); (case sc => k_mem); (case sd => walk_at "hsd"); (case kAt => assumption); (case kPar => assumption); (case len => assumption); (case hd => ktr_room); (case hu => ktr_units); k_whole); rintro _ _ h' tk' F' N' ⟨tl', p', u', e2, hab', htr', hat'⟩; subst e2; (have hsd2 := Above.ne hab' (by assumption)); (try k_sweep)))

theorem head_one {g : Str} {c : Nat} {r : List Nat} (k : Nat) (hg : g = Str.mk #[k]) : headIn g (c :: r) = decide (c = k) := by
  subst hg
  simp [headIn]

theorem pipe_step {n : Nat} (hCmd : ParseOK 262 pCmd n) (hPipe : ParseOK 241 pPipe n) : ParseOK 241 pPipe (n + 1) := by
  intro w mean mg mb sc sd h1 h2 k1 k2 line t p u rest news tr rest' hpar hsc hsd hat hlen
  unfold Does
  k_fill
  intro dp un gd cn cs a ccd cl outer A₀ base h₀ L m s Q E B F X N T hk hd hu hret
  refine wpAny_call ?_
  k_dflt ktr_enter
  unfold pPipe at hpar
  cases h1p : pCmd n rest with
  | none => rw [h1p] at hpar; cases hpar
  | some tr1 =>
  obtain ⟨t1, r1⟩ := tr1
  rw [h1p] at hpar
  dsimp only at hpar
  cases hr : skip r1 with
  | nil =>
    rw [hr] at hpar
    obtain ⟨rfl, rfl⟩ := Prod.mk.inj (Option.some.inj hpar)
    have hin : headIn (Str.ofString "|") [] = false := rfl
    k_steps
    exact hret _ _ _ _ (by k_asm) (by k_asm) ⟨_, _, _, rfl, by assumption, by assumption, by assumption⟩
  | cons c r2 =>
    rw [hr] at hpar
    by_cases hc : c = 124
    · subst hc
      simp only [if_true] at hpar
      have hin : headIn (Str.ofString "|") (124 :: r2) = true := by rw [head_one 124 (by decide +kernel)]; rfl
      have hsg := signOf_one (c := 124) (by decide) r2
      cases h2p : pPipe n r2 with
      | none => rw [h2p] at hpar; cases hpar
      | some tr2 =>
      obtain ⟨t2, r3⟩ := tr2
      rw [h2p] at hpar
      obtain ⟨rfl, rfl⟩ := Prod.mk.inj (Option.some.inj hpar)
      k_steps
      (rename TreeIn _ _ t1 => ht1)
      (rename TreeIn _ _ t2 => ht2)
      (rename Above _ _ news => ha1)
      (rename Above _ _ (_ ++ _) => ha2)
      (rename ∀ p ∈ _ :: _, _ < _ => l1)
      exact hret _ _ _ _ (by k_asm) (News.rot2a (by k_asm)) ⟨_, _, _, rfl, Above.two_a (ha1.trans ha2) l1 (by assumption),
        .pair (pipe := true) (ht1.mono sub_tl) (ht2.mono sub_tl2) (List.mem_cons_self ..) (List.mem_cons_of_mem _ (List.mem_cons_self ..)), by assumption⟩
    · simp only [if_neg hc] at hpar
      obtain ⟨rfl, rfl⟩ := Prod.mk.inj (Option.some.inj hpar)
      have hin : headIn (Str.ofString "|") (c :: r2) = false := by rw [head_one 124 (by decide +kernel)]; exact decide_eq_false hc
      k_steps
      exact hret _ _ _ _ (by k_asm) (by k_asm) ⟨_, _, _, rfl, by assumption, by assumption, by assumption⟩

theorem backs_shape : ∀ {n : Nat} {t : Tree} {r : List Nat} {t2 : Tree} {r2 : List Nat}, pBacks n t r = some (t2, r2) → r2.dropWhile isBlank = r2 ∧ headIn (Str.ofString "&") r2 = false
  | 0, _, _, _, _, h => by cases h
  | n + 1, t, r, t2, r2, h => by
    unfold pBacks at h
    cases hr : skip r with
    | nil =>
      rw [hr] at h
      obtain ⟨rfl, rfl⟩ := Prod.mk.inj (Option.some.inj h)
      exact ⟨rfl, rfl⟩
    | cons c r3 =>
      rw [hr] at h
      by_cases hc : c = 38
      · simp only [if_pos hc] at h
        exact backs_shape h
      · simp only [if_neg hc] at h
        obtain ⟨rfl, rfl⟩ := Prod.mk.inj (Option.some.inj h)
        exact ⟨dropBlank_idem hr, by rw [head_one 38 (by decide +kernel)]; exact decide_eq_false hc⟩

theorem line_step {n : Nat} (hPipe : ParseOK 241 pPipe n) (hLine : ParseOK 234 pLine n) : ParseOK 234 pLine (n + 1) := by
  intro w mean mg mb sc sd h1 h2 k1 k2 line t p u rest news tr rest' hpar hsc hsd hat hlen
  unfold Does
  k_fill
  intro dp un gd cn cs a ccd cl outer A₀ base h₀ L m s Q E B F X N T hk hd hu hret
  refine wpAny_call ?_
  k_dflt ktr_enter
  unfold pLine at hpar
  cases h1p : pPipe n rest with
  | none => rw [h1p] at hpar; cases hpar
  | some tr1 =>
  obtain ⟨t1, r1⟩ := tr1
  rw [h1p] at hpar
  dsimp only at hpar
  cases h2p : pBacks n t1 r1 with
  | none => rw [h2p] at hpar; cases hpar
  | some tr2 =>
  obtain ⟨t2, r2⟩ := tr2
  rw [h2p] at hpar
  obtain ⟨hr2, hh2⟩ := backs_shape h2p
  k_steps
  unfold Halt
  (rename Fr _ _ _ _ => F1)
  (rename News _ _ _ _ => N1)
  (rename At _ _ r1 => hat1)
  (rename TreeIn _ _ t1 => ht1)
  (rename Above _ _ news => ha1)
  k_dflt (refine' while_one (Str.ofString "found") [] (fun n' v' nx => ∃ (tl : List (Addr × Obj)) (p' : Int) (u' : Tok) (r' : List Nat) (t' : Tree), nx = (sd, scanObj h1 h2 k1 k2 line t p' u') :: (tl ++ news) ∧ Above tl sd news ∧ TreeIn tl v' t' ∧ At line p' r' ∧ pBacks n' t' r' = some (t2, r2)) F1 N1 (by exact rfl) ⟨_, _, _, _, _, rfl, ha1, ht1, hat1, h2p⟩ ?_ ?hE; (case hE => first | passes_own | with_unfolding_all passes_own))
  clear F1 N1
  rintro n' v' uu nx h1' tk1 F2 N2 ⟨tl, p', u', r', t', rfl, hab, htr, hat', hpar'⟩
  have hsd' := hab.ne hsd
  (try k_fold)
  cases n' with
  | zero => cases hpar'
  | succ n' =>
  unfold pBacks at hpar'
  cases hr : skip r' with
  | nil =>
    rw [hr] at hpar'
    obtain ⟨rfl, rfl⟩ := Prod.mk.inj (Option.some.inj hpar')
    obtain ⟨rfl, rfl⟩ := Prod.mk.inj (Option.some.inj hpar)
    have hin1 : headIn (Str.ofString "&") [] = false := rfl
    have hin2 : headIn (Str.ofString ";") [] = false := rfl
    k_steps
    exact hret _ _ _ _ (by k_asm) (by k_asm) ⟨_, _, _, rfl, hab, htr, by assumption⟩
  | cons c r2 =>
    rw [hr] at hpar'
    by_cases hc : c = 38
    · subst hc
      simp only [if_true] at hpar'
      have hin1 : headIn (Str.ofString "&") (38 :: r2) = true := by rw [head_one 38 (by decide +kernel)]; rfl
      have hsg := signOf_one (c := 38) (by decide) r2
      k_steps
      exact ⟨_, _, _, _, _, n', rfl, by k_asm, News.rot2 (by k_asm), Nat.lt_succ_self _, by exact rfl, by kwd_same0, _, _, _, _, _, rfl, hab.two (by assumption) (by assumption),
        .back (htr.mono fun _ h => List.mem_cons_of_mem _ (List.mem_cons_of_mem _ h)) (List.mem_cons_self ..) (List.mem_cons_of_mem _ (List.mem_cons_self ..)), by assumption, hpar'⟩
    · simp only [if_neg hc] at hpar'
      obtain ⟨rfl, rfl⟩ := Prod.mk.inj (Option.some.inj hpar')
      have hin1 : headIn (Str.ofString "&") (c :: r2) = false := by rw [head_one 38 (by decide +kernel)]; exact decide_eq_false hc
      by_cases hc2 : c = 59
      · subst hc2
        simp only [if_true] at hpar
        have hin2 : headIn (Str.ofString ";") (59 :: r2) = true := by rw [head_one 59 (by decide +kernel)]; rfl
        have hsg := signOf_one (c := 59) (by decide) r2
        cases h3p : pLine n r2 with
        | none => rw [h3p] at hpar; cases hpar
        | some tr3 =>
        obtain ⟨t3, r3⟩ := tr3
        rw [h3p] at hpar
        obtain ⟨rfl, rfl⟩ := Prod.mk.inj (Option.some.inj hpar)
        k_steps
        (rename TreeIn _ _ t3 => ht3)
        (rename Above _ _ (tl ++ news) => ha2)
        (rename ∀ p ∈ _ :: _, _ < _ => l1)
        exact hret _ _ _ _ (by k_asm) (News.rot2a (by k_asm)) ⟨_, _, _, rfl, Above.two_a (hab.trans ha2) l1 (by assumption),
          .pair (pipe := false) (htr.mono sub_tl) (ht3.mono sub_tl2) (List.mem_cons_self ..) (List.mem_cons_of_mem _ (List.mem_cons_self ..)), by assumption⟩
      · simp only [if_neg hc2] at hpar
        obtain ⟨rfl, rfl⟩ := Prod.mk.inj (Option.some.inj hpar)
        have hin2 : headIn (Str.ofString ";") (c :: r2) = false := by rw [head_one 59 (by decide +kernel)]; exact decide_eq_false hc2
        k_steps
        exact hret _ _ _ _ (by k_asm) (by k_asm) ⟨_, _, _, rfl, hab, htr, by assumption⟩


theorem head_stops (c : Nat) (r : List Nat) : headIn (Str.ofString "|)&;") (c :: r) = stops c := by
  have e : Str.ofString "|)&;" = Str.mk #[124, 41, 38, 59] := by decide +kernel
  rw [e, headIn, Bool.eq_iff_iff, decide_eq_true_eq]
  unfold stops
  simp only [List.mem_cons, List.not_mem_nil, or_false, Bool.or_eq_true, beq_iff_eq, or_assoc]

theorem redirs_shape : ∀ {n : Nat} {acc : List (List Nat × Nat)} {r : List Nat} {rs : List (List Nat × Nat)} {r2 : List Nat}, redirs n acc r = some (rs, r2) → r2.dropWhile isBlank = r2
  | 0, _, _, _, _, h => by cases h
  | n + 1, acc, r, rs, r2, h => by
    unfold redirs at h
    cases hr : skip r with
    | nil =>
      rw [hr] at h
      obtain ⟨rfl, rfl⟩ := Prod.mk.inj (Option.some.inj h)
      rfl
    | cons c r3 =>
      rw [hr] at h
      by_cases hc : c = 60 ∨ c = 62
      · simp only [if_pos hc] at h
        cases hr4 : skip (signOf (c :: r3)).2 with
        | nil => rw [hr4] at h; cases h
        | cons d r4 =>
          rw [hr4] at h
          cases hd : isSign d with
          | true => simp only [hd, if_true] at h; cases h
          | false => simp only [hd, Bool.false_eq_true, if_false] at h; exact redirs_shape h
      · simp only [if_neg hc] at h
        obtain ⟨rfl, rfl⟩ := Prod.mk.inj (Option.some.inj h)
        exact dropBlank_idem hr

theorem block_does {n : Nat} (hLine : ParseOK 234 pLine n) {w : World} {mean : ExcName → Option Value} {mg mb : Str → Option Value} {sc sd : Addr} {h1 h2 : Int} {k1 k2 : Tok} {line : Str} {t : Tok} {p : Int} {u : Tok} {news : List (Addr × Obj)}
    {r1 r2 r3 : List Nat} {tr : Tree} {rs : List (List Nat × Nat)} {rest' : List Nat} (hpl : pLine n r1 = some (tr, r2)) (hsk : r2.dropWhile isBlank = 41 :: r3) (hrd : redirs n [] r3 = some (rs, rest'))
    (hsc : (sc, instObj 209 sd) ∈ news) (hsd : ∀ q ∈ news, q.1 ≠ sd) (hat : At line p (40 :: r1)) (hlen : line.length ≤ 16777216) :
    Does w mean mg mb 255 [.ref sc] ((sd, scanObj h1 h2 k1 k2 line t p u) :: news) (2 * n + 21) (20 * n + 210) (fun led' r => ∃ tl p' u', led' = (sd, scanObj h1 h2 k1 k2 line t p' u') :: (tl ++ news) ∧ Above tl sd news ∧ TreeIn tl r (wrapT tr rs) ∧ At line p' rest') := by
  unfold Does
  k_fill
  intro dp un gd cn cs a ccd cl outer A₀ base h₀ L m s Q E B F X N T hk hd hu hret
  refine wpAny_call ?_
  k_dflt ktr_enter
  have hsg := signOf_one (c := 40) (by decide) r1
  have hsg2 := signOf_one (c := 41) (by decide) r3
  have hin1 : headIn (Str.ofString ")") (41 :: r3) = true := by rw [head_one 41 (by decide +kernel)]; rfl
  k_steps
  (rename TreeIn _ _ tr => ht1)
  (rename Wrapped _ _ rs _ => hw)
  (rename Above _ _ news => ha1)
  (rename Above _ _ (_ ++ _) => ha2)
  exact hret _ _ _ _ (by k_asm) (by rw [List.append_assoc]; k_asm) ⟨_, _, _, rfl, ha1.trans ha2, (ht1.mono fun _ h => List.mem_append.mpr (.inr h)).wrapped (hw.mono fun _ h => List.mem_append.mpr (.inl h)), by assumption⟩

local macro_rules | `(tactic| walk_at "call ref") => `(tactic| (k_here; (with_reducible show wpAny _ _ (PySem.call (Value.ref 255) _ _) _ _ _); k_dflt (refine' Does.auto (block_does ?kOk ?kPar ?kSk ?kRd ?sc ?sd ?kAt ?len) ?hd ?hu ?_; (case kOk => assumption); (case sc => k_mem); (case sd => walk_at "hsd"); (case kAt => assumption); (case kPar => assumption); (case kSk => assumption); (case kRd => assumption); (case len => assumption); (case hd => ktr_room); (case hu => ktr_units); k_whole); rintro _ _ h' tk' F' N' ⟨tl', p', u', e2, hab', htr', hat'⟩; subst e2; (try k_sweep)))

theorem cmd_ledger {h₀ h : Heap} {L al x dx l0 sd : Addr} {o1 o2 o3 o4 S : Obj} {news : List (Addr × Obj)} (N : News h₀ L h ((al, o1) :: (x, o2) :: (dx, o3) :: (l0, o4) :: (sd, S) :: news))
    (l1 : ∀ p ∈ (l0, o4) :: (sd, S) :: news, p.1 < dx) (l2 : dx < x) (l3 : x < al) (l4 : sd < l0) (hn : ∀ q ∈ news, q.1 ≠ sd) :
    News h₀ L h ((sd, S) :: (al, o1) :: (x, o2) :: (dx, o3) :: (l0, o4) :: news) ∧ (∀ q ∈ (al, o1) :: (x, o2) :: (dx, o3) :: (l0, o4) :: news, q.1 ≠ sd) := by
  have h1 : sd < dx := l1 (sd, S) (List.mem_cons_of_mem _ (List.mem_cons_self ..))
  refine ⟨?_, ?_⟩
  · intro p hp
    refine N p ?_
    simp only [List.mem_cons] at hp ⊢
    rcases hp with h | h | h | h | h | h <;> simp only [h, true_or, or_true]
  · intro q hq
    simp only [List.mem_cons] at hq
    rcases hq with rfl | rfl | rfl | rfl | h
    · exact Nat.ne_of_gt (Nat.lt_trans (Nat.lt_trans h1 l2) l3)
    · exact Nat.ne_of_gt (Nat.lt_trans h1 l2)
    · exact Nat.ne_of_gt h1
    · exact Nat.ne_of_gt l4
    · exact hn q h

theorem News.mid {h₀ h : Heap} {L : Addr} {a b : Addr × Obj} {tl base : List (Addr × Obj)} (N : News h₀ L h (a :: (tl ++ (b :: base)))) : News h₀ L h (a :: b :: (tl ++ base)) := by
  intro p hp
  refine N p ?_
  simp only [List.mem_cons, List.mem_append] at hp ⊢
  rcases hp with h | h | h | h <;> simp only [h, true_or, or_true]
theorem News.unmid {h₀ h : Heap} {L : Addr} {a b c d e : Addr × Obj} {tl news : List (Addr × Obj)} (N : News h₀ L h (a :: b :: (tl ++ (c :: d :: e :: news)))) : News h₀ L h (a :: ((tl ++ [b, c, d, e]) ++ news)) := by
  intro p hp
  refine N p ?_
  simp only [List.mem_cons, List.mem_append, List.not_mem_nil, or_false] at hp ⊢
  rcases hp with h | (h | h | h | h | h) | h <;> simp only [h, true_or, or_true]

section
variable {prog : Program} {w : World} {A : Around} {E : Value → Shared → Prop} {s : Shared}
theorem len_words {l : Addr} {vs : List Value} {ws : List (List Nat)} {Q : Value → Shared → Prop} (hl : s.heap.IsList l vs.toArray) (hw : Words vs ws) (hz : ws.length ≤ 1000) (h : Q (.int ws.length (s.toks + 1)) { s with toks := s.toks + 1 + 1 }) :
    wpAny (model prog w) A (PySem.call (.builtin "len") [.ref l]) Q E s :=
  kun_lenL hl (by rw [List.size_toArray, hw.length_eq]) (by omega) h
end
local macro_rules | `(tactic| walk_at "call builtin:len") => `(tactic| (k_here; (with_reducible show wpAny _ _ (PySem.call (Value.builtin "len") [Value.ref _]) _ _ _); k_dflt (refine' len_words ?k1 ?kw ?kz ?_; (case k1 => exact News.isList (by k_asm) (by k_mem)); (case kw => assumption); (case kz => omega))))

theorem cmd_above {tl news : List (Addr × Obj)} {sd : Addr} {a b c : Addr × Obj} {al : Addr} {o o' : Obj} (h : Above tl sd ((al, o) :: a :: b :: c :: news)) (hup : ∀ o : Obj, Above [(al, o), a, b, c] sd news) : Above (tl ++ [(al, o'), a, b, c]) sd news := by
  intro q hq
  rcases List.mem_append.mp hq with hq | hq
  · exact ⟨(h q hq).1, fun p hp => (h q hq).2 p (List.mem_cons_of_mem _ (List.mem_cons_of_mem _ (List.mem_cons_of_mem _ (List.mem_cons_of_mem _ hp))))⟩
  · exact hup o' q hq
theorem cmd_tree {tl : List (Addr × Obj)} {x dx al : Addr} {h : Int} {k : Tok} {vs : List Value} {ws : List (List Nat)} {n : Nat} {c : Addr × Obj} {v : Value} {reds : List (List Nat × Nat)} (hw : Wrapped tl (.ref x) reds v) (hwd : Words vs ws) :
    TreeIn (tl ++ [(al, listOf vs.toArray n), (x, instObj 83 dx), (dx, runDict h k al), c]) v (wrapT (.run ws) reds) := by
  have m1 : (x, instObj 83 dx) ∈ tl ++ [(al, listOf vs.toArray n), (x, instObj 83 dx), (dx, runDict h k al), c] := List.mem_append.mpr (.inr (List.mem_cons_of_mem _ (List.mem_cons_self ..)))
  have m2 : (dx, runDict h k al) ∈ tl ++ [(al, listOf vs.toArray n), (x, instObj 83 dx), (dx, runDict h k al), c] := List.mem_append.mpr (.inr (List.mem_cons_of_mem _ (List.mem_cons_of_mem _ (List.mem_cons_self ..))))
  have m3 : (al, listOf vs.toArray n) ∈ tl ++ [(al, listOf vs.toArray n), (x, instObj 83 dx), (dx, runDict h k al), c] := List.mem_append.mpr (.inr (List.mem_cons_self ..))
  exact TreeIn.wrapped (.run m1 m2 m3 hwd) (hw.mono fun _ h => List.mem_append.mpr (.inl h))

theorem cmd_mid {h₀ h : Heap} {L : Addr} {a : Addr × Obj} {al : Addr} {vs : List Value} {v : Value} {k : Nat} {tl2 tl base : List (Addr × Obj)} (N : News h₀ L h (a :: (tl2 ++ ((al, listOf (vs.toArray.push v) k) :: (tl ++ base))))) :
    News h₀ L h (a :: (al, listOf (vs ++ [v]).toArray k) :: ((tl2 ++ tl) ++ base)) := by
  rw [← List.push_toArray]
  intro p hp
  refine N p ?_
  simp only [List.mem_cons, List.mem_append] at hp ⊢
  rcases hp with h | h | (h | h) | h <;> simp only [h, true_or, or_true]
theorem cmd_above2 {tl2 tl base : List (Addr × Obj)} {sd al : Addr} {o o' : Obj} (h : Above tl sd ((al, o) :: base)) (h2 : Above tl2 sd ((al, o') :: (tl ++ base))) : Above (tl2 ++ tl) sd ((al, o) :: base) := by
  intro q hq
  rcases List.mem_append.mp hq with hq | hq
  · refine ⟨(h2 q hq).1, fun p hp => ?_⟩
    rcases List.mem_cons.mp hp with rfl | hp
    · exact (h2 q hq).2 (al, o') (List.mem_cons_self ..)
    · exact (h2 q hq).2 p (List.mem_cons_of_mem _ (List.mem_append.mpr (.inr hp)))
  · exact h q hq

theorem cmd_step {n : Nat} (hLine : ParseOK 234 pLine n) : ParseOK 262 pCmd (n + 1) := by
  intro w mean mg mb sc sd h1 h2 k1 k2 line t p u rest news tr rest' hpar hsc hsd hat hlen
  unfold Does
  k_fill
  intro dp un gd cn cs a ccd cl outer A₀ base h₀ L m s Q E B F X N T hk hd hu hret
  refine wpAny_call ?_
  k_dflt ktr_enter
  unfold pCmd at hpar
  have hdr0 : rest.dropWhile isBlank = skip rest := rfl
  have key : (∃ r1 t1 r2 r3 rs, skip rest = 40 :: r1 ∧ pLine n r1 = some (t1, r2) ∧ skip r2 = 41 :: r3 ∧ redirs n [] r3 = some (rs, rest') ∧ tr = wrapT t1 rs) ∨
      (headIn (Str.ofString "(") (skip rest) = false ∧ ∃ rs r2, redirs n [] (skip rest) = some (rs, r2) ∧ pArgs n [] rs r2 = some (tr, rest')) := by
    have other : ∀ r0, (match redirs n [] r0 with | none => none | some (rs, r2) => pArgs n [] rs r2) = some (tr, rest') → ∃ rs r2, redirs n [] r0 = some (rs, r2) ∧ pArgs n [] rs r2 = some (tr, rest') := by
      intro r0 hm
      cases hr : redirs n [] r0 with
      | none => rw [hr] at hm; cases hm
      | some pr => obtain ⟨rs, r2⟩ := pr; rw [hr] at hm; exact ⟨rs, r2, rfl, hm⟩
    cases hs : skip rest with
    | nil =>
      rw [hs] at hpar
      exact .inr ⟨rfl, other _ hpar⟩
    | cons c r1 =>
      rw [hs] at hpar
      by_cases hc : c = 40
      · subst hc
        simp only [if_true] at hpar
        cases h1p : pLine n r1 with
        | none => rw [h1p] at hpar; cases hpar
        | some tr1 =>
        obtain ⟨t1, r2⟩ := tr1
        rw [h1p] at hpar
        dsimp only at hpar
        cases hs2 : skip r2 with
        | nil => rw [hs2] at hpar; cases hpar
        | cons d r3 =>
        rw [hs2] at hpar
        by_cases hd : d = 41
        · subst hd
          simp only [if_true] at hpar
          cases hrd : redirs n [] r3 with
          | none => rw [hrd] at hpar; cases hpar
          | some pr =>
          obtain ⟨rs, r4⟩ := pr
          rw [hrd] at hpar
          obtain ⟨rfl, rfl⟩ := Prod.mk.inj (Option.some.inj hpar)
          exact .inl ⟨r1, t1, r2, r3, rs, rfl, h1p, hs2, hrd, rfl⟩
        · simp only [if_neg hd] at hpar
          cases hpar
      · simp only [if_neg hc] at hpar
        exact .inr ⟨by rw [head_one 40 (by decide +kernel)]; exact decide_eq_false hc, other _ hpar⟩
  clear hpar
  rcases key with ⟨r1, t1, r2, r3, rs, hs, hpl, hsk, hrd, rfl⟩ | ⟨hin0, rs, r2, hrd, hpa⟩
  · rw [hs] at hdr0
    have hin0 : headIn (Str.ofString "(") (40 :: r1) = true := by rw [head_one 40 (by decide +kernel)]; rfl
    k_steps
    exact hret _ _ _ _ (by k_asm) (by k_asm) ⟨_, _, _, rfl, by assumption, by assumption, by assumption⟩
  · k_steps
    unfold Halt
    rename_i l0 hA l4 hB tkB x dx al hk1 kk1 ln l9 l2 l3 hh F9 N9
    obtain ⟨N10, hsd9⟩ := cmd_ledger N9 l9 l2 l3 l4.1 hsd
    have hbase : ∀ q ∈ (x, instObj 83 dx) :: (dx, runDict hk1 kk1 al) :: (l0, listOf #[] 0) :: news, q.1 < al := by
      intro q hq
      rcases List.mem_cons.mp hq with rfl | hq
      · exact l3
      rcases List.mem_cons.mp hq with rfl | hq
      · exact Nat.lt_trans l2 l3
      refine Nat.lt_trans (l9 q ?_) (Nat.lt_trans l2 l3)
      rcases List.mem_cons.mp hq with rfl | hq
      · exact List.mem_cons_self ..
      · exact List.mem_cons_of_mem _ (List.mem_cons_of_mem _ hq)
    have hup : ∀ o, Above [(al, o), (x, instObj 83 dx), (dx, runDict hk1 kk1 al), (l0, listOf #[] 0)] sd news := by
      intro o q hq
      have e1 : sd < dx := l9 (sd, _) (List.mem_cons_of_mem _ (List.mem_cons_self ..))
      have e2 : ∀ p ∈ news, p.1 < dx := fun p hp => l9 p (List.mem_cons_of_mem _ (List.mem_cons_of_mem _ hp))
      have e3 := of_allLt l4.2
      simp only [List.mem_cons, List.not_mem_nil, or_false] at hq
      rcases hq with rfl | rfl | rfl | rfl
      · exact ⟨Nat.lt_trans (Nat.lt_trans e1 l2) l3, fun p hp => Nat.lt_trans (Nat.lt_trans (e2 p hp) l2) l3⟩
      · exact ⟨Nat.lt_trans e1 l2, fun p hp => Nat.lt_trans (e2 p hp) l2⟩
      · exact ⟨e1, e2⟩
      · exact ⟨l4.1, e3⟩
    clear N9
    k_steps
    unfold Halt
    (rename Fr _ _ _ _ => F1)
    (rename News _ _ _ _ => N1)
    (rename At _ _ r2 => hat1)
    (rename Wrapped _ _ rs _ => hw1)
    (rename Above _ _ _ => ha1)
    have hsa := ltN (hup (listOf #[] ln) _ (List.mem_cons_self ..)).1
    have hal : ∀ (tl : List (Addr × Obj)), Above tl sd ((al, listOf #[] ln) :: (x, instObj 83 dx) :: (dx, runDict hk1 kk1 al) :: (l0, listOf #[] 0) :: news) → ∀ q ∈ tl ++ ((x, instObj 83 dx) :: (dx, runDict hk1 kk1 al) :: (l0, listOf #[] 0) :: news), q.1 ≠ al := by
      intro tl ha q hq
      rcases List.mem_append.mp hq with hq | hq
      · exact Nat.ne_of_gt ((ha q hq).2 _ (List.mem_cons_self ..))
      · exact Nat.ne_of_lt (hbase q hq)
    have hsdo : ∀ (tl : List (Addr × Obj)), Above tl sd ((al, listOf #[] ln) :: (x, instObj 83 dx) :: (dx, runDict hk1 kk1 al) :: (l0, listOf #[] 0) :: news) → ∀ (o : Obj), ∀ q ∈ (al, o) :: (tl ++ ((x, instObj 83 dx) :: (dx, runDict hk1 kk1 al) :: (l0, listOf #[] 0) :: news)), q.1 ≠ sd := by
      intro tl ha o q hq
      rcases List.mem_cons.mp hq with rfl | hq
      · exact hsd9 (al, listOf #[] ln) (List.mem_cons_self ..)
      rcases List.mem_append.mp hq with hq | hq
      · exact Nat.ne_of_gt (ha q hq).1
      · exact hsd9 q (List.mem_cons_of_mem _ hq)
    k_dflt (refine' while_one (Str.ofString "found") [] (fun n' v' nx => ∃ (tl : List (Addr × Obj)) (p' : Int) (u' : Tok) (r' : List Nat) (args : List (List Nat)) (reds : List (List Nat × Nat)) (vs : List Value) (lnn : Nat), nx = (sd, scanObj h1 h2 k1 k2 line t p' u') :: (al, listOf vs.toArray lnn) :: (tl ++ ((x, instObj 83 dx) :: (dx, runDict hk1 kk1 al) :: (l0, listOf #[] 0) :: news)) ∧ Above tl sd ((al, listOf #[] ln) :: (x, instObj 83 dx) :: (dx, runDict hk1 kk1 al) :: (l0, listOf #[] 0) :: news) ∧ Wrapped tl (.ref x) reds v' ∧ Words vs args ∧ At line p' r' ∧ pArgs n' args reds r' = some (tr, rest') ∧ args.length ≤ 9) F1 (News.mid N1) (by exact rfl) ⟨_, _, _, _, [], _, [], _, rfl, ha1, hw1, .nil, hat1, hpa, by decide⟩ ?_ ?hE; (case hE => first | passes_own | with_unfolding_all passes_own))
    clear F1 N1
    rintro n' v' uu nx h1' tk1 F2 N2 ⟨tl, p', u', r', args, reds, vs, lnn, rfl, hab, hwr, hwd, hat', hpar', hle⟩
    have hal' := hal tl hab
    have hsdo' := hsdo tl hab
    have hvl := hwd.length_eq
    (try k_fold)
    cases n' with
    | zero => cases hpar'
    | succ n' =>
    unfold pArgs at hpar'
    have hdr9 : r'.dropWhile isBlank = skip r' := rfl
    cases hr : skip r' with
    | nil =>
      rw [hr] at hpar' hdr9
      obtain ⟨rfl, rfl⟩ := Prod.mk.inj (Option.some.inj hpar')
      k_steps
      exact hret _ _ _ _ (by k_asm) (News.unmid (by k_asm)) ⟨_, _, _, rfl, cmd_above hab hup, cmd_tree hwr hwd, by assumption⟩
    | cons c r5 =>
      rw [hr] at hpar' hdr9
      cases hst : stops c with
      | true =>
        simp only [hst, if_true] at hpar'
        obtain ⟨rfl, rfl⟩ := Prod.mk.inj (Option.some.inj hpar')
        have hin1 : headIn (Str.ofString "|)&;") (c :: r5) = true := by rw [head_stops, hst]
        k_steps
        exact hret _ _ _ _ (by k_asm) (News.unmid (by k_asm)) ⟨_, _, _, rfl, cmd_above hab hup, cmd_tree hwr hwd, by assumption⟩
      | false =>
        simp only [hst, Bool.false_eq_true, if_false] at hpar'
        have hin1 : headIn (Str.ofString "|)&;") (c :: r5) = false := by rw [head_stops, hst]
        cases hsg : isSign c with
        | true => simp only [hsg, if_true] at hpar'; cases hpar'
        | false =>
        simp only [hsg, Bool.false_eq_true, if_false] at hpar'
        have hwn : wordNext (c :: r5) = true := by simp [wordNext, hsg]
        by_cases h9 : args.length = 9
        · simp only [if_pos h9] at hpar'; cases hpar'
        · simp only [if_neg h9] at hpar'
          cases hrd2 : redirs n' [] ((c :: r5).dropWhile isWordCh) with
          | none => rw [hrd2] at hpar'; cases hpar'
          | some pr =>
          obtain ⟨rs2, r6⟩ := pr
          rw [hrd2] at hpar'
          dsimp only at hpar'
          have h9' : ¬ vs.length = 9 := by rw [hvl]; exact h9
          k_steps
          · exfalso; omega
          · unfold Halt
            (rename At _ _ (List.dropWhile isWordCh (c :: r5)) => hat7)
            k_dflt (refine' Does.use (redirs_does hrd2 ?sc ?sd hat7 hlen) ?B ?F ?X ?N ?T ?hk ?hd ?hu ?_; (case B => k_asm); (case F => k_asm); (case X => k_asm); (case N => k_asm); (case T => k_asm); (case hk => first | exact rfl | assumption); (case sc => k_mem); (case sd => exact hsdo' _); (case hd => ktr_room); (case hu => ktr_units); k_whole)
            rintro r7 _ h7 tk7 F7 N7 ⟨tl2, p7, u7, rfl, hab7, hwr7, hat8, hdr8⟩
            (try k_sweep)
            k_steps
            refine ⟨_, _, _, _, _, n', rfl, by k_asm, cmd_mid (by k_asm), Nat.lt_succ_self _, by exact rfl, by kwd_same0, _, _, _, _, _, _, _, _, rfl, cmd_above2 hab hab7,
              (hwr.mono fun _ h => List.mem_append.mpr (.inr h)).trans (hwr7.mono fun _ h => List.mem_append.mpr (.inl h)), hwd.snoc _ _, hat8, hpar', ?_⟩
            rw [List.length_append, List.length_singleton]; omega

theorem parse_all : ∀ n, ParseOK 234 pLine n ∧ ParseOK 241 pPipe n ∧ ParseOK 262 pCmd n
  | 0 => by
    refine ⟨?_, ?_, ?_⟩ <;> intro w mean mg mb sc sd h1 h2 k1 k2 line t p u rest news tr rest' hpar
    · cases (show (none : Option (Tree × List Nat)) = some (tr, rest') by rw [← hpar]; unfold pLine; rfl)
    · cases (show (none : Option (Tree × List Nat)) = some (tr, rest') by rw [← hpar]; unfold pPipe; rfl)
    · cases (show (none : Option (Tree × List Nat)) = some (tr, rest') by rw [← hpar]; unfold pCmd; rfl)
  | n + 1 => by
    obtain ⟨a, b, c⟩ := parse_all n
    exact ⟨line_step b a, pipe_step c b, cmd_step a⟩

noncomputable def Over (tl led : List (Addr × Obj)) : Prop := ∀ q ∈ tl, ∀ p ∈ led, p.1 < q.1

theorem scan_makes2 {w : World} {mean : ExcName → Option Value} {mg mb : Str → Option Value} {line : Str} {t : Tok} {led : List (Addr × Obj)} :
    Does w mean mg mb 209 [.str line t] led 4 40 (fun led' r => ∃ (x dx : Addr) (h1 h2 : Int) (k1 k2 u : Tok), r = .ref x ∧ led' = (dx, scanObj h1 h2 k1 k2 line t 0 u) :: (x, instObj 209 dx) :: led ∧ (∀ p ∈ led, p.1 < dx) ∧ dx < x) := by
  intro dp un gd cn cs a ccd cl outer A₀ base h₀ L m s Q E B F X N T hk hd hu hret
  refine scan_makes.use B F X N T hk hd hu ?_
  rintro r led' h' tk' F' N' ⟨x, dx, h1, h2, k1, k2, u, rfl, rfl, l1, l2⟩
  refine hret _ _ _ _ F' (fun p hp => N' p ?_) ⟨x, dx, h1, h2, k1, k2, u, rfl, rfl, l1, l2⟩
  simp only [List.mem_cons] at hp ⊢
  rcases hp with h | h | h <;> simp only [h, true_or, or_true]
theorem scan_off {x dx : Addr} {led : List (Addr × Obj)} {o : Obj} (l1 : ∀ p ∈ led, p.1 < dx) (l2 : dx < x) : ∀ q ∈ (x, o) :: led, q.1 ≠ dx := by
  intro q hq
  rcases List.mem_cons.mp hq with rfl | hq
  · exact Nat.ne_of_gt l2
  · exact Nat.ne_of_lt (l1 q hq)

local macro_rules | `(tactic| walk_at "call ref") => `(tactic| (k_here; (with_reducible show wpAny _ _ (PySem.call (Value.ref 209) _ _) _ _ _); k_dflt (refine' Does.auto scan_makes2 ?hd ?hu ?_; (case hd => ktr_room); (case hu => ktr_units); k_whole); rintro _ _ h' tk' F' N' ⟨x', d', a0', a1', a2', a3', a4', e1, e2, l1, l2⟩; subst e1; subst e2; (have hsd3 := scan_off (o := instObj 209 d') l1 l2); (try k_sweep)))

theorem parse_end {h₀ h : Heap} {L : Addr} {m : Str → Option Value} {s : Shared} {Q : Value → Shared → Prop} {led tl : List (Addr × Obj)} {tr : Tree} {r : Value} {tk : Nat} {x d : Addr} {o1 o2 : Obj}
    (hret : ∀ r led' h' tk', Fr h₀ L h' m → News h₀ L h' led' → (fun (led' : List (Addr × Obj)) (r : Value) => ∃ tl, led' = tl ++ led ∧ Over tl led ∧ TreeIn tl r tr) led' r → Q r { s with heap := h', toks := tk' })
    (F : Fr h₀ L h m) (N : News h₀ L h ((d, o1) :: (tl ++ (x, o2) :: led))) (hab : Above tl d ((x, o2) :: led)) (htr : TreeIn tl r tr) : Q r { s with heap := h, toks := tk } := by
  refine hret r (tl ++ led) h tk F (fun p hp => N p ?_) ⟨tl, rfl, fun q hq p hp => (hab q hq).2 p (List.mem_cons_of_mem _ hp), htr⟩
  simp only [List.mem_cons, List.mem_append] at hp ⊢
  rcases hp with h | h <;> simp only [h, true_or, or_true]

theorem parse_does {n : Nat} (hLine : ParseOK 234 pLine n) {w : World} {mean : ExcName → Option Value} {mg mb : Str → Option Value} {line : Str} {t : Tok} {led : List (Addr × Obj)}
    {tr : Tree} {r2 : List Nat} (hp : pLine n line.cps.toList = some (tr, r2)) (hs : r2.dropWhile isBlank = []) (hlen : line.length ≤ 16777216) :
    Does w mean mg mb 227 [.str line t] led (2 * n + 30) (20 * n + 300) (fun led' r => ∃ tl, led' = tl ++ led ∧ Over tl led ∧ TreeIn tl r tr) := by
  unfold Does
  k_fill
  intro dp un gd cn cs a ccd cl outer A₀ base h₀ L m s Q E B F X N T hk hd hu hret
  refine wpAny_call ?_
  k_dflt ktr_enter
  have hat0 : At line 0 line.cps.toList := ⟨by decide, by unfold Str.length; omega, rfl⟩
  k_steps
  (rename Above _ _ _ => hab)
  (rename TreeIn _ _ tr => htr)
  exact parse_end hret (by k_asm) (by k_asm) hab htr

noncomputable def wrapTxt (b : Bool) (s : List Nat) : List Nat := if b then [40, 32] ++ s ++ [32, 41] else s
noncomputable def isRL : Tree → Bool
  | .run _ => true
  | .lead .. => true
  | _ => false
noncomputable def isBk : Tree → Bool
  | .back _ => true
  | _ => false
noncomputable def isSemi : Tree → Bool
  | .pair false _ _ => true
  | _ => false
noncomputable def signTxt (k : Nat) : List Nat := if k = 0 then [60] else if k = 1 then [62] else [62, 62]
noncomputable def joinW : List (List Nat) → List Nat
  | [] => []
  | [w] => w
  | w :: v :: ws => w ++ 32 :: joinW (v :: ws)
noncomputable def spaced (g : List Nat) : List Nat := if g = [] then [] else g ++ [32]
noncomputable def textT : Tree → List Nat
  | .run ws => joinW ws
  | .lead t p k => spaced (wrapTxt (!isRL t) (textT t)) ++ signTxt k ++ 32 :: p
  | .back t => wrapTxt (isSemi t) (textT t) ++ [32, 38]
  | .pair true l r => wrapTxt (!isRL l) (textT l) ++ [32, 124, 32] ++ wrapTxt (isBk r || isSemi r) (textT r)
  | .pair false l r => wrapTxt (isSemi l) (textT l) ++ [32, 59, 32] ++ textT r
noncomputable def grpT (t : Tree) : List Nat := wrapTxt (!isRL t) (textT t)
noncomputable def pipT (t : Tree) : List Nat := wrapTxt (isBk t || isSemi t) (textT t)
noncomputable def ht : Tree → Nat
  | .run _ => 0
  | .lead t _ _ => ht t + 1
  | .back t => ht t + 1
  | .pair _ l r => max (ht l) (ht r) + 1
noncomputable def wordOk (w : List Nat) : Prop := w ≠ [] ∧ w.length ≤ 8 ∧ ∀ c ∈ w, 33 ≤ c ∧ c < 127 ∧ isSign c = false
noncomputable def wfT : Tree → Prop
  | .run ws => ws.length ≤ 3 ∧ ∀ w ∈ ws, wordOk w
  | .lead t p k => wfT t ∧ wordOk p ∧ k < 3
  | .back t => wfT t
  | .pair _ l r => wfT l ∧ wfT r

theorem S_append (a b : List Nat) : S a ++ S b = S (a ++ b) := by
  refine Str.ext' ?_
  rw [Str.cps_append]
  unfold S
  simp
theorem S_length (a : List Nat) : (S a).length = a.length := by unfold S Str.length; simp
theorem s_ofString_blank : Str.ofString " " = S [32] := by decide +kernel

theorem join_words : ∀ ws : List (List Nat), Txt.join (Str.ofString " ") (ws.map S) = S (joinW ws) := by
  intro ws
  show Builtin.Str.glued _ _ = _
  rw [StrLaws.glued_eq_join]
  induction ws with
  | nil => rfl
  | cons w ws ih =>
    cases ws with
    | nil => rfl
    | cons v ws =>
      show S w ++ Str.ofString " " ++ Str.join (Str.ofString " ") ((v :: ws).map S) = _
      rw [ih, s_ofString_blank, S_append, S_append, joinW, List.append_assoc]
      rfl

theorem no_space33 {c : Nat} (h1 : 33 ≤ c) (h2 : c < 127) : Unicode.isSpace c = false := KXs.no_space c h2 h1

theorem strip_hi {a b : List Nat} {n : Nat} (h0 : ∀ c r, b = r ++ [c] → Unicode.isSpace c = false) (hb : a.drop n = b) : stripHi Unicode.isSpace true (S a) n = a.length := by
  simp only [stripHi, if_true, S_length]
  have e : (S a).cps.toList = a := by simp [S]
  rw [e, hb]
  cases hr : b.reverse with
  | nil => rfl
  | cons c l =>
    have e : b = l.reverse ++ [c] := by rw [← List.reverse_reverse b, hr, List.reverse_cons]
    rw [List.takeWhile_cons, h0 c _ e]; rfl
-- a text that opens and ends with no blank is its own strip
theorem strip_same {a : List Nat} (h1 : ∀ c r, a = c :: r → Unicode.isSpace c = false) (h2 : ∀ c r, a = r ++ [c] → Unicode.isSpace c = false) : Txt.strip (S a) = S a := by
  have lo : stripLo Unicode.isSpace true (S a) = 0 := by
    simp only [stripLo, if_true, S]
    cases a with
    | nil => rfl
    | cons c l => simp [List.takeWhile_cons, h1 c l rfl]
  have hi : stripHi Unicode.isSpace true (S a) 0 = a.length := strip_hi h2 rfl
  unfold Txt.strip Txt.stripBy
  rw [if_pos]
  unfold stripSame
  rw [lo, hi, S_length]
  simp
theorem strip_blank {a : List Nat} (h0 : a ≠ []) (h1 : ∀ c r, a = c :: r → Unicode.isSpace c = false) (h2 : ∀ c r, a = r ++ [c] → Unicode.isSpace c = false) : Txt.strip (S (32 :: a)) = S a := by
  have sp : Unicode.isSpace 32 = true := by decide +kernel
  have lo : stripLo Unicode.isSpace true (S (32 :: a)) = 1 := by
    simp only [stripLo, if_true, S]
    cases a with
    | nil => exact absurd rfl h0
    | cons c l => simp [List.takeWhile_cons, h1 c l rfl, sp]
  have hi : stripHi Unicode.isSpace true (S (32 :: a)) 1 = (32 :: a).length := strip_hi (b := a) h2 rfl
  unfold Txt.strip Txt.stripBy
  rw [if_neg]
  · unfold PySem.stripped
    rw [lo, hi]
    refine Str.ext' (Array.toList_inj.mp ?_)
    rw [StrLaws.strSub_toList]
    simp [S]
  · unfold stripSame
    rw [lo]
    simp

theorem word_head {w : List Nat} (h : wordOk w) {r : List Nat} {c : Nat} {r2 : List Nat} (e : w ++ r = c :: r2) : 33 ≤ c ∧ c < 127 ∧ isSign c = false := by
  cases w with
  | nil => exact absurd rfl h.1
  | cons d w =>
    rw [List.cons_append] at e
    injection e with e1 e2
    subst e1
    exact h.2.2 d (List.mem_cons_self ..)
theorem word_last {w : List Nat} (h : wordOk w) {r : List Nat} {c : Nat} {r2 : List Nat} (e : r ++ w = r2 ++ [c]) : 33 ≤ c ∧ c < 127 := by
  have h2 := congrArg List.reverse e
  rw [List.reverse_append, List.reverse_append, List.reverse_singleton] at h2
  cases hw : w.reverse with
  | nil => exact absurd (List.reverse_eq_nil_iff.mp hw) h.1
  | cons d l =>
    rw [hw] at h2
    simp only [List.cons_append, List.nil_append, List.cons.injEq] at h2
    have hm : d ∈ w := List.mem_reverse.mp (by rw [hw]; exact List.mem_cons_self ..)
    have := h.2.2 d hm
    exact h2.1 ▸ ⟨this.1, this.2.1⟩
theorem join_head {ws : List (List Nat)} (h : ∀ w ∈ ws, wordOk w) {r : List Nat} {c : Nat} {r2 : List Nat} (hne : ws ≠ []) (e : joinW ws ++ r = c :: r2) : 33 ≤ c ∧ c < 127 ∧ isSign c = false := by
  match ws with
  | [] => exact absurd rfl hne
  | [w] => exact word_head (h w (List.mem_cons_self ..)) (by rw [joinW] at e; exact e)
  | w :: v :: ws => exact word_head (h w (List.mem_cons_self ..)) (by rw [joinW, List.append_assoc] at e; exact e)
theorem sign_head {k : Nat} {r : List Nat} {c : Nat} {r2 : List Nat} (e : signTxt k ++ r = c :: r2) : c = 60 ∨ c = 62 := by
  unfold signTxt at e
  split at e
  · injection e with e1 e2; exact .inl e1.symm
  · split at e <;> (injection e with e1 e2; exact .inr e1.symm)
theorem rl_head : ∀ {t : Tree}, wfT t → isRL t = true → ∀ {c : Nat} {r : List Nat}, textT t = c :: r → 33 ≤ c ∧ c < 127
  | .run ws, h, _, c, r, e => by
    rw [textT] at e
    by_cases hw : ws = []
    · subst hw; cases e
    · have := join_head (r := []) h.2 hw (by rw [List.append_nil]; exact e)
      exact ⟨this.1, this.2.1⟩
  | .lead t p k, h, _, c, r, e => by
    rw [textT, List.append_assoc] at e
    unfold spaced at e
    split at e
    · rcases sign_head e with rfl | rfl <;> decide
    · rename_i hne
      unfold wrapTxt at e hne
      cases hr : isRL t with
      | true =>
        rw [hr] at e hne
        simp only [Bool.not_true, Bool.false_eq_true, if_false] at e hne
        cases ht : textT t with
        | nil => exact absurd ht hne
        | cons d l =>
          rw [ht] at e
          simp only [List.cons_append, List.cons.injEq] at e
          exact e.1 ▸ rl_head h.1 hr ht
      | false =>
        rw [hr] at e
        simp only [Bool.not_false, if_true, List.cons_append, List.nil_append, List.cons.injEq] at e
        exact e.1 ▸ (by decide)
  | .back t, _, hr, _, _, _ => by cases hr
  | .pair _ _ _, _, hr, _, _, _ => by cases hr
theorem grp_head {t : Tree} (h : wfT t) {c : Nat} {r : List Nat} (e : grpT t = c :: r) : 33 ≤ c ∧ c < 127 := by
  unfold grpT wrapTxt at e
  cases hr : isRL t with
  | true => rw [hr] at e; exact rl_head h hr e
  | false =>
    rw [hr] at e
    simp only [Bool.not_false, if_true, List.cons_append, List.nil_append, List.cons.injEq] at e
    exact e.1 ▸ (by decide)
theorem strip_lead {t : Tree} {p : List Nat} {k : Nat} (h : wfT (.lead t p k)) : Txt.strip (S (grpT t ++ 32 :: (signTxt k ++ 32 :: p))) = S (textT (.lead t p k)) := by
  have tail : ∀ (r : List Nat) (c : Nat) (r2 : List Nat), r ++ p = r2 ++ [c] → Unicode.isSpace c = false := fun r c r2 e => by
    have := word_last h.2.1 e
    exact no_space33 this.1 this.2
  rw [textT, show wrapTxt (!isRL t) (textT t) = grpT t from rfl]
  unfold spaced
  by_cases hg : grpT t = []
  · rw [if_pos hg, hg, List.nil_append, List.nil_append]
    refine strip_blank ?_ (fun c r e => ?_) (fun c r e => ?_)
    · unfold signTxt; split <;> (try split) <;> exact List.cons_ne_nil _ _
    · rcases sign_head e with rfl | rfl <;> decide +kernel
    · exact tail (signTxt k ++ [32]) c r (by rw [List.append_assoc]; exact e)
  · rw [if_neg hg, List.append_assoc, List.append_assoc]
    refine strip_same (fun c r e => ?_) (fun c r e => ?_)
    · cases hh : grpT t with
      | nil => exact absurd hh hg
      | cons d l =>
        have := grp_head h.1 hh
        rw [hh, List.cons_append] at e
        injection e with e1 e2
        exact e1 ▸ no_space33 this.1 this.2
    · exact tail (grpT t ++ ([32] ++ (signTxt k ++ [32]))) c r (by simpa [List.append_assoc] using e)

section
variable {prog : Program} {w : World} {A : Around} {E : Value → Shared → Prop} {s : Shared}
theorem add_S {x y : Str} {a b : List Nat} {t u : Tok} {Q : Value → Shared → Prop} (hx : x = S a) (hy : y = S b) (hz : a.length + b.length ≤ 16777216) (h : ∀ t' tk, Q (.str (S (a ++ b)) t') { s with toks := tk }) :
    wpAny (model prog w) A (binaryOp .Add (.str x t) (.str y u)) Q E s := by
  subst hx; subst hy
  exact add_str (fun t' tk => by rw [S_append]; exact h t' tk) (by rw [S_length, S_length, sizeLine_eq]; exact hz)
theorem strs_are {vs : List Value} {ws : List (List Nat)} (h : Words vs ws) : StrsAre vs (ws.map S) := by
  induction h with
  | nil => exact .nil
  | cons _ ih => exact .cons _ _ ih
theorem join_S {D : Addr} {vs : List Value} {ws : List (List Nat)} {t : Tok} {Q : Value → Shared → Prop} (hl : s.heap.IsList D vs.toArray) (hw : Words vs ws) (hz : (ws.map (·.length)).sum + ws.length ≤ 1048576)
    (h : ∀ t' k, Q (.str (S (joinW ws)) t') { s with toks := k }) : wpAny (model prog w) A (PySem.call (.builtin "str.join") [.str (Str.ofString " ") t, .ref D]) Q E s := by
  refine join_listW hl (ys := ws.map S) (by rw [List.toList_toArray]; exact strs_are hw) (by decide +kernel) ?_ (fun t' k => by rw [join_words]; exact h t' k)
  rw [List.map_map, List.length_map]
  have e : (Str.length ∘ S) = List.length := by funext a; exact S_length a
  rw [e]; exact hz
end
theorem News.tl {h₀ h : Heap} {L : Addr} {a : Addr × Obj} {r : List (Addr × Obj)} (N : News h₀ L h (a :: r)) : News h₀ L h r := fun p hp => N p (List.mem_cons_of_mem _ hp)
theorem sl0 : (signTxt 0).length = 1 := rfl
theorem sl1 : (signTxt 1).length = 1 := rfl
theorem sl2 : (signTxt 2).length = 2 := rfl
theorem lit_blank : Str.ofString " " = S [32] := by decide +kernel
theorem lit_lt : Str.ofString "<" = S (signTxt 0) := by decide +kernel
theorem lit_gt : Str.ofString ">" = S (signTxt 1) := by decide +kernel
theorem lit_gtgt : Str.ofString ">>" = S (signTxt 2) := by decide +kernel
theorem lit_amp : Str.ofString " &" = S [32, 38] := by decide +kernel
theorem lit_bar : Str.ofString " | " = S [32, 124, 32] := by decide +kernel
theorem lit_semi : Str.ofString " ; " = S [32, 59, 32] := by decide +kernel
theorem lit_open : Str.ofString "( " = S [40, 32] := by decide +kernel
theorem lit_close : Str.ofString " )" = S [32, 41] := by decide +kernel
local macro_rules | `(tactic| walk_at "binaryOp Add str str") => `(tactic| (k_here; (with_reducible show wpAny _ _ (binaryOp Operator.Add (Value.str _ _) (Value.str _ _)) _ _ _); (refine' add_S ?kx ?ky ?kz ?_; (case kx => first | exact lit_blank | exact lit_lt | exact lit_gt | exact lit_gtgt | exact lit_amp | exact lit_bar | exact lit_semi | exact lit_open | exact lit_close | exact rfl); (case ky => first | exact lit_blank | exact lit_lt | exact lit_gt | exact lit_gtgt | exact lit_amp | exact lit_bar | exact lit_semi | exact lit_open | exact lit_close | exact rfl); (case kz => (simp only [List.length_append, List.length_cons, List.length_nil, sl0, sl1, sl2]; omega))); intro _ _))
local macro_rules | `(tactic| walk_at "call builtin:str.join") => `(tactic| (k_here; (with_reducible show wpAny _ _ (PySem.call (Value.builtin "str.join") [Value.str _ _, Value.ref _]) _ _ _); (refine' join_S ?kl ?kw ?kz ?_; (case kl => exact News.isList (by k_asm) (by k_mem)); (case kw => assumption); (case kz => assumption)); intro _ _))

noncomputable def SayOK (f : Addr) (txt : Tree → List Nat) (n dep uni : Nat) : Prop :=
  ∀ (w : World) (mean : ExcName → Option Value) (mg mb : Str → Option Value) (v : Value) (led : List (Addr × Obj)) (t : Tree), TreeIn led v t → wfT t → ht t ≤ n → (txt t).length ≤ 100000 →
    Does w mean mg mb f [v] led dep uni (fun led' r => led = led' ∧ ∃ tk, r = .str (S (txt t)) tk)
theorem SayOK.use {f : Addr} {txt : Tree → List Nat} {n dep uni : Nat} (H : SayOK f txt n dep uni) {w : World} {mean : ExcName → Option Value} {mg mb : Str → Option Value} {v : Value} {led : List (Addr × Obj)} {t : Tree} (h1 : TreeIn led v t) (h2 : wfT t) (h3 : ht t ≤ n) (h4 : (txt t).length ≤ 100000) :
    Does w mean mg mb f [v] led dep uni (fun led' r => led = led' ∧ ∃ tk, r = .str (S (txt t)) tk) := H _ _ _ _ _ _ _ h1 h2 h3 h4

local macro_rules | `(tactic| walk_at "call ref") => `(tactic| (k_here; (first | (with_reducible show wpAny _ _ (PySem.call (Value.ref 269) _ _) _ _ _) | (with_reducible show wpAny _ _ (PySem.call (Value.ref 276) _ _) _ _ _) | (with_reducible show wpAny _ _ (PySem.call (Value.ref 283) _ _) _ _ _)); k_dflt (refine' Does.use (SayOK.use ?kOk ?kTr ?kWf ?kHt ?kLn) ?B ?F ?X ?N ?T ?hk ?hd ?hu ?_; (case kOk => assumption); (case kTr => assumption); (case B => k_asm); (case F => k_asm); (case X => k_asm); (case N => first | k_asm | exact News.tl (by k_asm) | exact News.tl (News.tl (by k_asm))); (case T => k_asm); (case hk => first | exact rfl | assumption); (case kWf => assumption); (case kHt => omega); (case kLn => omega); (case hd => ktr_room); (case hu => ktr_units); k_whole); rintro _ _ h' tk' F' N' ⟨e1, ts', e2⟩; subst e1; subst e2; (try k_sweep)))

theorem grp_len {t : Tree} (h : (grpT t).length ≤ 100000) : (textT t).length ≤ 100000 := by
  unfold grpT wrapTxt at h
  split at h
  · simp only [List.length_append] at h; omega
  · exact h

theorem grouped_step {n : Nat} (hT : SayOK 269 textT n (6 * n + 20) (60 * n + 200)) : SayOK 276 grpT n (6 * n + 22) (60 * n + 220) := by
  intro w mean mg mb v led t htr hwf hht hln
  unfold Does
  k_fill
  intro dp un gd cn cs a ccd cl outer A₀ base h₀ L m s Q E B F X N T hk hd hu hret
  refine wpAny_call ?_
  k_dflt ktr_enter
  have hln' := grp_len hln
  have htr' := htr
  cases htr with
  | run m1 m2 m3 hws =>
    k_steps
    exact hret _ _ _ _ (by k_asm) (by k_asm) ⟨rfl, _, rfl⟩
  | lead h1 m1 m2 =>
    k_steps
    exact hret _ _ _ _ (by k_asm) (by k_asm) ⟨rfl, _, rfl⟩
  | back h1 m1 m2 =>
    k_steps
    exact hret _ _ _ _ (by k_asm) (by k_asm) ⟨rfl, _, rfl⟩
  | pair h1 h2 m1 m2 =>
    k_steps
    exact hret _ _ _ _ (by k_asm) (by k_asm) ⟨rfl, _, rfl⟩

theorem pip_len {t : Tree} (h : (pipT t).length ≤ 100000) : (textT t).length ≤ 100000 := by
  unfold pipT wrapTxt at h
  split at h
  · simp only [List.length_append] at h; omega
  · exact h

theorem piped_step {n : Nat} (hT : SayOK 269 textT n (6 * n + 20) (60 * n + 200)) : SayOK 283 pipT n (6 * n + 22) (60 * n + 220) := by
  intro w mean mg mb v led t htr hwf hht hln
  unfold Does
  k_fill
  intro dp un gd cn cs a ccd cl outer A₀ base h₀ L m s Q E B F X N T hk hd hu hret
  refine wpAny_call ?_
  k_dflt ktr_enter
  have hln' := pip_len hln
  have htr' := htr
  cases htr with
  | run m1 m2 m3 hws =>
    k_steps
    exact hret _ _ _ _ (by k_asm) (by k_asm) ⟨rfl, _, rfl⟩
  | lead h1 m1 m2 =>
    k_steps
    exact hret _ _ _ _ (by k_asm) (by k_asm) ⟨rfl, _, rfl⟩
  | back h1 m1 m2 =>
    k_steps
    exact hret _ _ _ _ (by k_asm) (by k_asm) ⟨rfl, _, rfl⟩
  | @pair v1 v2 l r b x dx h1 h2 h3 k1 k2 k3 tg ha hb m1 m2 =>
    cases b with
    | true =>
      rw [show signStr true = Str.ofString "|" from rfl] at m2
      k_steps
      exact hret _ _ _ _ (by k_asm) (by k_asm) ⟨rfl, _, rfl⟩
    | false =>
      rw [show signStr false = Str.ofString ";" from rfl] at m2
      k_steps
      exact hret _ _ _ _ (by k_asm) (by k_asm) ⟨rfl, _, rfl⟩

section
variable {prog : Program} {w : World} {A : Around} {E : Value → Shared → Prop} {s : Shared}
theorem strip_W {t : Tree} {p : List Nat} {k : Nat} {tk : Tok} {Q : Value → Shared → Prop} (h : wfT (.lead t p k)) (hl : (grpT t).length ≤ 100000) (hq : ∀ t' j, Q (.str (S (textT (.lead t p k))) t') { s with toks := j }) :
    wpAny (model prog w) A (PySem.call (.builtin "str.strip") [.str (S ((((grpT t ++ [32]) ++ signTxt k) ++ [32]) ++ p)) tk]) Q E s := by
  refine SC.strip (fun t' j => ?_) ?_
  · rw [show (((grpT t ++ [32]) ++ signTxt k) ++ [32]) ++ p = grpT t ++ 32 :: (signTxt k ++ 32 :: p) by simp [List.append_assoc], strip_lead h]
    exact hq t' j
  · rw [S_length, sizeLine_eq]
    have h2 := h.2.1.2.1
    have h3 : (signTxt k).length ≤ 2 := by unfold signTxt; split <;> (try split) <;> decide
    simp only [List.length_append, List.length_cons, List.length_nil]
    omega
end
local macro_rules | `(tactic| walk_at "call builtin:str.strip") => `(tactic| (k_here; (with_reducible show wpAny _ _ (PySem.call (Value.builtin "str.strip") [Value.str (S _) _]) _ _ _); (refine' strip_W ?kw ?kl ?_; (case kw => assumption); (case kl => assumption)); intro _ _))

theorem spaced_len (g : List Nat) : g.length ≤ (spaced g).length := by
  unfold spaced
  split
  · rename_i h; rw [h]; exact Nat.zero_le _
  · rw [List.length_append]; omega
theorem joinW_len : ∀ ws : List (List Nat), (ws.map (·.length)).sum + ws.length ≤ (joinW ws).length + 1
  | [] => by decide
  | [w] => by simp [joinW]
  | w :: v :: ws => by
    have ih := joinW_len (v :: ws)
    simp only [joinW, List.map_cons, List.sum_cons, List.length_cons, List.length_append] at ih ⊢
    omega

theorem text_does {n : Nat} (hyp : ∀ m, m + 1 = n → SayOK 269 textT m (6 * m + 20) (60 * m + 200)) : SayOK 269 textT n (6 * n + 20) (60 * n + 200) := by
  intro w mean mg mb v led t htr hwf hht hln
  unfold Does
  k_fill
  intro dp un gd cn cs a ccd cl outer A₀ base h₀ L m s Q E B F X N T hk hd hu hret
  refine wpAny_call ?_
  k_dflt ktr_enter
  cases htr with
  | @run x dx al h k vs ws ln m1 m2 m3 hws =>
    have hlw : (ws.map (·.length)).sum + ws.length ≤ 1048576 := by
      have := joinW_len ws
      rw [textT] at hln
      omega
    k_steps
    exact hret _ _ _ _ (by k_asm) (by k_asm) ⟨rfl, _, rfl⟩
  | @lead v t p k x dx h1 h2 h3 h4 k1 k2 k3 k4 t1 t2 t3 ha m1 m2 =>
    obtain ⟨n', rfl⟩ : ∃ n', n = n' + 1 := by
      cases n with
      | zero => rw [ht] at hht; omega
      | succ n' => exact ⟨n', rfl⟩
    have hT : SayOK 269 textT n' (6 * n' + 20) (60 * n' + 200) := @hyp n' rfl
    have hG := grouped_step hT
    clear hyp
    have hlg : (grpT t).length ≤ 100000 := by
      rw [textT] at hln
      have := spaced_len (grpT t)
      rw [show wrapTxt (!isRL t) (textT t) = grpT t from rfl] at hln
      simp only [List.length_append, List.length_cons] at hln
      omega
    have hlp : p.length ≤ 8 := hwf.2.1.2.1
    have hw1 : wfT t := hwf.1
    have hh1 : ht t ≤ n' := by rw [ht] at hht; omega
    have hk3 := hwf.2.2
    have hk4 : k = 0 ∨ k = 1 ∨ k = 2 := by omega
    rcases hk4 with rfl | rfl | rfl
    · rw [show modeOf 0 = 0 from rfl] at m2
      k_steps
      exact hret _ _ _ _ (by k_asm) (by k_asm) ⟨rfl, _, rfl⟩
    · rw [show modeOf 1 = 1537 from rfl] at m2
      k_steps
      exact hret _ _ _ _ (by k_asm) (by k_asm) ⟨rfl, _, rfl⟩
    · rw [show modeOf 2 = 2561 from rfl] at m2
      k_steps
      exact hret _ _ _ _ (by k_asm) (by k_asm) ⟨rfl, _, rfl⟩
  | @back v t x dx h k ha m1 m2 =>
    obtain ⟨n', rfl⟩ : ∃ n', n = n' + 1 := by
      cases n with
      | zero => rw [ht] at hht; omega
      | succ n' => exact ⟨n', rfl⟩
    have hT : SayOK 269 textT n' (6 * n' + 20) (60 * n' + 200) := @hyp n' rfl
    have hP := piped_step hT
    clear hyp
    have hw1 : wfT t := hwf
    have hh1 : ht t ≤ n' := by rw [ht] at hht; omega
    have hl0 := hln
    rw [textT, List.length_append] at hl0
    have ha' := ha
    cases ha with
    | run c1 c2 c3 hws =>
      have hlp : (pipT (.run _)).length ≤ 100000 := Nat.le_trans (Nat.le_add_right _ _) hl0
      k_steps
      exact hret _ _ _ _ (by k_asm) (by k_asm) ⟨rfl, _, str_val (by rfl)⟩
    | lead c0 c1 c2 =>
      have hlp : (pipT (.lead _ _ _)).length ≤ 100000 := Nat.le_trans (Nat.le_add_right _ _) hl0
      k_steps
      exact hret _ _ _ _ (by k_asm) (by k_asm) ⟨rfl, _, str_val (by rfl)⟩
    | back c0 c1 c2 =>
      have hlp : (textT (.back _)).length ≤ 100000 := Nat.le_trans (Nat.le_add_right _ _) hl0
      k_steps
      exact hret _ _ _ _ (by k_asm) (by k_asm) ⟨rfl, _, str_val (by rfl)⟩
    | @pair _ _ l9 r9 b _ _ _ _ _ _ _ _ _ c0 c3 c1 c2 =>
      have hlp : (pipT (.pair b l9 r9)).length ≤ 100000 := by cases b <;> exact Nat.le_trans (Nat.le_add_right _ _) hl0
      k_steps
      exact hret _ _ _ _ (by k_asm) (by k_asm) ⟨rfl, _, str_val (by cases b <;> rfl)⟩
  | @pair v1 v2 l r b x dx h1 h2 h3 k1 k2 k3 tg ha hb m1 m2 =>
    obtain ⟨n', rfl⟩ : ∃ n', n = n' + 1 := by
      cases n with
      | zero => rw [ht] at hht; omega
      | succ n' => exact ⟨n', rfl⟩
    have hT : SayOK 269 textT n' (6 * n' + 20) (60 * n' + 200) := @hyp n' rfl
    have hP := piped_step hT
    have hG := grouped_step hT
    clear hyp
    have hw1 : wfT l := hwf.1
    have hw2 : wfT r := hwf.2
    have hh1 : ht l ≤ n' := by rw [ht] at hht; omega
    have hh2 : ht r ≤ n' := by rw [ht] at hht; omega
    have hl0 := hln
    cases b with
    | true =>
      rw [show signStr true = Str.ofString "|" from rfl] at m2
      rw [textT, List.length_append, List.length_append] at hl0
      have hl1 : (grpT l).length ≤ 100000 := by unfold grpT; omega
      have hl2 : (pipT r).length ≤ 100000 := by unfold pipT; omega
      k_steps
      exact hret _ _ _ _ (by k_asm) (by k_asm) ⟨rfl, _, rfl⟩
    | false =>
      rw [show signStr false = Str.ofString ";" from rfl] at m2
      rw [textT, List.length_append, List.length_append] at hl0
      have hl2 : (textT r).length ≤ 100000 := by omega
      have hl3 : (wrapTxt (isSemi l) (textT l)).length ≤ 100000 := by omega
      have ha' := ha
      cases ha with
      | run c1 c2 c3 hws =>
        have hlp : (pipT (.run _)).length ≤ 100000 := hl3
        k_steps
        exact hret _ _ _ _ (by k_asm) (by k_asm) ⟨rfl, _, str_val (by rfl)⟩
      | lead c0 c1 c2 =>
        have hlp : (pipT (.lead _ _ _)).length ≤ 100000 := hl3
        k_steps
        exact hret _ _ _ _ (by k_asm) (by k_asm) ⟨rfl, _, str_val (by rfl)⟩
      | back c0 c1 c2 =>
        have hlp : (textT (.back _)).length ≤ 100000 := hl3
        k_steps
        exact hret _ _ _ _ (by k_asm) (by k_asm) ⟨rfl, _, str_val (by rfl)⟩
      | @pair _ _ l9 r9 b _ _ _ _ _ _ _ _ _ c0 c3 c1 c2 =>
        have hlp : (pipT (.pair b l9 r9)).length ≤ 100000 := by cases b <;> exact hl3
        k_steps
        exact hret _ _ _ _ (by k_asm) (by k_asm) ⟨rfl, _, str_val (by cases b <;> rfl)⟩

theorem text_all : ∀ n, SayOK 269 textT n (6 * n + 20) (60 * n + 200)
  | 0 => text_does (fun m h => absurd h (Nat.succ_ne_zero m))
  | n + 1 => text_does (fun m h => by
    obtain rfl : m = n := by omega
    exact text_all m)

noncomputable def shapeD : Tree → Dat
  | .run ws => .tuple [.str (Str.ofString "run"), .list (ws.map fun w => .str (S w))]
  | .lead t p k => .tuple [.str (Str.ofString "lead"), shapeD t, .str (S p), .int (modeOf k), .int (whereOf k)]
  | .back t => .tuple [.str (Str.ofString "back"), shapeD t]
  | .pair b l r => .tuple [.str (signStr b), shapeD l, shapeD r]
theorem words_dat {led : List (Addr × Obj)} {vs : List Value} {ws : List (List Nat)} (h : Words vs ws) : DatAll led vs (ws.map fun w => .str (S w)) := by
  induction h with
  | nil => exact .nil
  | cons _ ih => exact .cons (.str _ _) ih
theorem Over.one {a : Addr} {o : Obj} {led : List (Addr × Obj)} (h : ∀ p ∈ led, p.1 < a) : Over [(a, o)] led := by
  intro q hq p hp
  rw [List.mem_singleton.mp hq]; exact h p hp
theorem Over.cons {a : Addr} {o : Obj} {tl led : List (Addr × Obj)} (h : ∀ p ∈ tl ++ led, p.1 < a) (h2 : Over tl led) : Over ((a, o) :: tl) led := by
  intro q hq p hp
  rcases List.mem_cons.mp hq with rfl | hq
  · exact h p (List.mem_append.mpr (.inr hp))
  · exact h2 q hq p hp
theorem Over.app {tl2 tl1 led : List (Addr × Obj)} (h1 : Over tl1 led) (h2 : Over tl2 (tl1 ++ led)) : Over (tl2 ++ tl1) led := by
  intro q hq p hp
  rcases List.mem_append.mp hq with hq | hq
  · exact h2 q hq p (List.mem_append.mpr (.inr hp))
  · exact h1 q hq p hp
theorem sub_app {tl led : List (Addr × Obj)} : ∀ p ∈ led, p ∈ tl ++ led := fun _ h => List.mem_append.mpr (.inr h)
theorem sub_app2 {tl2 tl1 led : List (Addr × Obj)} : ∀ p ∈ led, p ∈ tl2 ++ (tl1 ++ led) := fun _ h => List.mem_append.mpr (.inr (List.mem_append.mpr (.inr h)))

noncomputable def ShapeOK (n : Nat) : Prop :=
  ∀ (w : World) (mean : ExcName → Option Value) (mg mb : Str → Option Value) (v : Value) (led : List (Addr × Obj)) (t : Tree), TreeIn led v t → ht t ≤ n →
    Does w mean mg mb 309 [v] led (2 * n + 20) (20 * n + 200) (fun led' r => ∃ tl, led' = tl ++ led ∧ Over tl led ∧ DatIn (tl ++ led) r (shapeD t))
theorem ShapeOK.use {n : Nat} (H : ShapeOK n) {w : World} {mean : ExcName → Option Value} {mg mb : Str → Option Value} {v : Value} {led : List (Addr × Obj)} {t : Tree} (h1 : TreeIn led v t) (h3 : ht t ≤ n) :
    Does w mean mg mb 309 [v] led (2 * n + 20) (20 * n + 200) (fun led' r => ∃ tl, led' = tl ++ led ∧ Over tl led ∧ DatIn (tl ++ led) r (shapeD t)) := H _ _ _ _ _ _ _ h1 h3
local macro_rules | `(tactic| walk_at "call ref") => `(tactic| (k_here; (with_reducible show wpAny _ _ (PySem.call (Value.ref 309) _ _) _ _ _); k_dflt (refine' Does.auto (ShapeOK.use ?kOk ?kTr ?kHt) ?hd ?hu ?_; (case kOk => assumption); (case kTr => first | assumption | exact TreeIn.mono sub_app (by assumption) | exact TreeIn.mono sub_app2 (by assumption)); (case kHt => omega); (case hd => ktr_room); (case hu => ktr_units); k_whole); rintro _ _ h' tk' F' N' ⟨tl', e2, hov', hda'⟩; subst e2; (try k_sweep)))

theorem shape_end {a : Addr} {led tl1 tl2 : List (Addr × Obj)} {b : Bool} {l r : Tree} {v1 v2 : Value} {tg : Tok} {k : Nat} (h : ∀ p ∈ tl2 ++ (tl1 ++ led), p.1 < a) (h1 : Over tl1 led) (h2 : Over tl2 (tl1 ++ led)) (d1 : DatIn (tl1 ++ led) v1 (shapeD l)) (d2 : DatIn (tl2 ++ (tl1 ++ led)) v2 (shapeD r)) :
    ∃ tl, (a, ({ cls := .type "tuple", data := .seq #[.str (signStr b) tg, v1, v2] k } : Obj)) :: (tl2 ++ (tl1 ++ led)) = tl ++ led ∧ Over tl led ∧ DatIn (tl ++ led) (.ref a) (shapeD (.pair b l r)) := by
  refine ⟨(a, { cls := .type "tuple", data := .seq #[.str (signStr b) tg, v1, v2] k }) :: (tl2 ++ tl1), by rw [List.cons_append, List.append_assoc], Over.cons (by rw [List.append_assoc]; exact h) (Over.app h1 h2), ?_⟩
  rw [List.cons_append, List.append_assoc]
  exact DatIn.tuple (List.mem_cons_self ..) (.cons (.str _ _) (.cons (d1.mono fun _ h => List.mem_cons_of_mem _ (List.mem_append.mpr (.inr h))) (.cons (d2.mono fun _ h => List.mem_cons_of_mem _ h) .nil)))

theorem shape_does {n : Nat} (hyp : ∀ m, m + 1 = n → ShapeOK m) : ShapeOK n := by
  intro w mean mg mb v led t htr hht
  unfold Does
  k_fill
  intro dp un gd cn cs a ccd cl outer A₀ base h₀ L m s Q E B F X N T hk hd hu hret
  refine wpAny_call ?_
  k_dflt ktr_enter
  cases htr with
  | @run x dx al h k vs ws ln m1 m2 m3 hws =>
    k_steps
    exact hret _ _ _ _ (by k_asm) (by k_asm) ⟨[_], rfl, Over.one (by assumption), DatIn.tuple (List.mem_cons_self ..) (.cons (.str _ _) (.cons (.list (List.mem_cons_of_mem _ m3) (words_dat hws)) .nil))⟩
  | @lead v t p k x dx h1 h2 h3 h4 k1 k2 k3 k4 t1 t2 t3 ha m1 m2 =>
    obtain ⟨n', rfl⟩ : ∃ n', n = n' + 1 := by
      cases n with
      | zero => rw [ht] at hht; omega
      | succ n' => exact ⟨n', rfl⟩
    have hT : ShapeOK n' := @hyp n' rfl
    clear hyp
    have hh1 : ht t ≤ n' := by rw [ht] at hht; omega
    k_steps
    (rename DatIn _ _ (shapeD t) => hd1)
    (rename Over _ led => ho1)
    exact hret _ _ _ _ (by k_asm) (by k_asm) ⟨_ :: _, rfl, Over.cons (by assumption) ho1, DatIn.tuple (List.mem_cons_self ..) (.cons (.str _ _) (.cons (hd1.mono fun _ h => List.mem_cons_of_mem _ h) (.cons (.str _ _) (.cons (.int _ _) (.cons (.int _ _) .nil)))))⟩
  | @back v t x dx h k ha m1 m2 =>
    obtain ⟨n', rfl⟩ : ∃ n', n = n' + 1 := by
      cases n with
      | zero => rw [ht] at hht; omega
      | succ n' => exact ⟨n', rfl⟩
    have hT : ShapeOK n' := @hyp n' rfl
    clear hyp
    have hh1 : ht t ≤ n' := by rw [ht] at hht; omega
    k_steps
    (rename DatIn _ _ (shapeD t) => hd1)
    (rename Over _ led => ho1)
    exact hret _ _ _ _ (by k_asm) (by k_asm) ⟨_ :: _, rfl, Over.cons (by assumption) ho1, DatIn.tuple (List.mem_cons_self ..) (.cons (.str _ _) (.cons (hd1.mono fun _ h => List.mem_cons_of_mem _ h) .nil))⟩
  | @pair v1 v2 l r b x dx h1 h2 h3 k1 k2 k3 tg ha hb m1 m2 =>
    obtain ⟨n', rfl⟩ : ∃ n', n = n' + 1 := by
      cases n with
      | zero => rw [ht] at hht; omega
      | succ n' => exact ⟨n', rfl⟩
    have hT : ShapeOK n' := @hyp n' rfl
    clear hyp
    have hh1 : ht l ≤ n' := by rw [ht] at hht; omega
    have hh2 : ht r ≤ n' := by rw [ht] at hht; omega
    k_steps
    (rename DatIn _ _ (shapeD l) => hd1)
    (rename DatIn _ _ (shapeD r) => hd2)
    (rename Over _ led => ho1)
    (rename Over _ (_ ++ led) => ho2)
    (rename ∀ p ∈ _, _ < _ => hl9)
    exact hret _ _ _ _ (by k_asm) (by k_asm) (shape_end hl9 ho1 ho2 hd1 hd2)

theorem shape_all : ∀ n, ShapeOK n
  | 0 => shape_does (fun m h => absurd h (Nat.succ_ne_zero m))
  | n + 1 => shape_does (fun m h => by
    obtain rfl : m = n := by omega
    exact shape_all m)

theorem skip_idem (r : List Nat) : skip (skip r) = skip r := dropBlank_idem rfl
theorem skip_sp (r : List Nat) : skip (32 :: r) = skip r := List.dropWhile_cons_of_pos (by decide)
theorem skip_non {c : Nat} {r : List Nat} (h : isBlank c = false) : skip (c :: r) = c :: r := List.dropWhile_cons_of_neg (by simp [h])
theorem ok_ch {w : List Nat} (h : wordOk w) {c : Nat} (hc : c ∈ w) : isWordCh c = true ∧ isBlank c = false ∧ isSign c = false := by
  have h1 := h.2.2 c hc
  have hb : isBlank c = false := by
    unfold isBlank
    simp only [Bool.or_eq_false_iff, beq_eq_false_iff_ne]
    omega
  exact ⟨by unfold isWordCh; rw [hb, h1.2.2]; rfl, hb, h1.2.2⟩
theorem stops_sign {c : Nat} (h : isSign c = false) : stops c = false := by
  unfold isSign at h
  unfold stops
  simp only [Bool.or_eq_false_iff, beq_eq_false_iff_ne] at h ⊢
  omega
theorem not_sign {c : Nat} (h : isSign c = false) : c ≠ 60 ∧ c ≠ 62 ∧ c ≠ 40 := by
  unfold isSign at h
  simp only [Bool.or_eq_false_iff, beq_eq_false_iff_ne] at h
  omega
theorem stop_not {c : Nat} (h : stops c = true) : c ≠ 60 ∧ c ≠ 62 ∧ c ≠ 40 := by
  unfold stops at h
  simp only [Bool.or_eq_true, beq_iff_eq] at h
  omega

noncomputable def endW (r : List Nat) : Prop := ∀ c r2, r = c :: r2 → isWordCh c = false
noncomputable def okC (r : List Nat) : Prop := endW r ∧ ∀ c r2, skip r = c :: r2 → stops c = true
noncomputable def okP (r : List Nat) : Prop := endW r ∧ ∀ c r2, skip r = c :: r2 → c = 41 ∨ c = 38 ∨ c = 59
noncomputable def okL (r : List Nat) : Prop := endW r ∧ ∀ c r2, skip r = c :: r2 → c = 41
theorem okP.c {r : List Nat} (h : okP r) : okC r := ⟨h.1, fun c r2 e => by rcases h.2 c r2 e with rfl | rfl | rfl <;> rfl⟩
theorem okL.p {r : List Nat} (h : okL r) : okP r := ⟨h.1, fun c r2 e => .inl (h.2 c r2 e)⟩
theorem endW_sp (r : List Nat) : endW (32 :: r) := fun c r2 e => by injection e with e1 _; subst e1; rfl

theorem redirs_stop {n : Nat} {acc : List (List Nat × Nat)} {r : List Nat} (h : ∀ c r2, skip r = c :: r2 → c ≠ 60 ∧ c ≠ 62) : redirs (n + 1) acc r = some (acc, skip r) := by
  unfold redirs
  cases hs : skip r with
  | nil => rfl
  | cons c r2 =>
    have := h c r2 hs
    simp only [show ¬(c = 60 ∨ c = 62) by omega, if_false]
theorem redirs_congr {n : Nat} {acc : List (List Nat × Nat)} {r r' : List Nat} (h : skip r = skip r') : redirs n acc r = redirs n acc r' := by
  cases n with
  | zero => rfl
  | succ n => unfold redirs; rw [h]
theorem pArgs_congr {n : Nat} {args : List (List Nat)} {reds : List (List Nat × Nat)} {r r' : List Nat} (h : skip r = skip r') : pArgs n args reds r = pArgs n args reds r' := by
  cases n with
  | zero => rfl
  | succ n => unfold pArgs; rw [h]
theorem pBacks_congr {n : Nat} {t : Tree} {r r' : List Nat} (h : skip r = skip r') : pBacks n t r = pBacks n t r' := by
  cases n with
  | zero => rfl
  | succ n => unfold pBacks; rw [h]

noncomputable def redsTxt : List (List Nat × Nat) → List Nat
  | [] => []
  | (p, k) :: rs => 32 :: (signTxt k ++ 32 :: (p ++ redsTxt rs))
theorem redsTxt_append (a b : List (List Nat × Nat)) : redsTxt (a ++ b) = redsTxt a ++ redsTxt b := by
  induction a with
  | nil => rfl
  | cons x a ih =>
    obtain ⟨p, k⟩ := x
    simp only [List.cons_append, redsTxt, ih, List.append_assoc]
theorem endW_reds {rs : List (List Nat × Nat)} {r : List Nat} (h : endW r) : endW (redsTxt rs ++ r) := by
  cases rs with
  | nil => exact h
  | cons x rs => obtain ⟨p, k⟩ := x; exact endW_sp _
theorem word_rest {p r : List Nat} (h : wordOk p) (hr : endW r) : ∃ d l, p ++ r = d :: l ∧ skip (p ++ r) = d :: l ∧ isSign d = false ∧ (d :: l).takeWhile isWordCh = p ∧ (d :: l).dropWhile isWordCh = r := by
  cases p with
  | nil => exact absurd rfl h.1
  | cons d l =>
    have hd := ok_ch h (List.mem_cons_self ..)
    have td := takeDrop_of (pre := d :: l) (r' := r) (fun c hc => (ok_ch h hc).1) hr
    exact ⟨d, l ++ r, rfl, skip_non hd.2.1, hd.2.2, td.1, td.2⟩

theorem redirs_list : ∀ {reds : List (List Nat × Nat)} {acc : List (List Nat × Nat)} {n : Nat} {r : List Nat}, (∀ x ∈ reds, wordOk x.1 ∧ x.2 < 3) → reds.length + 1 ≤ n → okC r →
    redirs n acc (redsTxt reds ++ r) = some (acc ++ reds, skip r)
  | [], acc, n + 1, r, _, _, hr => by
    rw [List.append_nil]
    exact redirs_stop fun c r2 e => ⟨(stop_not (hr.2 c r2 e)).1, (stop_not (hr.2 c r2 e)).2.1⟩
  | (p, k) :: rs, acc, n + 1, r, hw, hn, hr => by
    have hp := hw (p, k) (List.mem_cons_self ..)
    have ih := redirs_list (reds := rs) (acc := acc ++ [(p, k)]) (n := n) (r := r) (fun x hx => hw x (List.mem_cons_of_mem _ hx)) (by rw [List.length_cons] at hn; omega) hr
    obtain ⟨d, l, e1, e2, e3, e4, e5⟩ := word_rest (p := p) (r := redsTxt rs ++ r) hp.1 (endW_reds hr.1)
    have hk : k = 0 ∨ k = 1 ∨ k = 2 := by have := hp.2; omega
    have e0 : redsTxt ((p, k) :: rs) ++ r = 32 :: (signTxt k ++ 32 :: (d :: l)) := by
      rw [← e1]; simp only [redsTxt, List.cons_append, List.append_assoc]
    have eskip : skip (32 :: (d :: l)) = d :: l := by rw [skip_sp, ← e1, e2, e1]
    rw [e0]
    unfold redirs
    rw [skip_sp]
    have fin : redirs n (acc ++ [((d :: l).takeWhile isWordCh, k)]) ((d :: l).dropWhile isWordCh) = some (acc ++ (p, k) :: rs, skip r) := by
      rw [e4, e5, ih, List.append_assoc]; rfl
    rcases hk with rfl | rfl | rfl
    · rw [show signTxt 0 = [60] from rfl, List.cons_append, List.nil_append, skip_non (by decide)]
      simp only [true_or, if_true]
      rw [signOf_one (by decide), eskip]
      simp only [e3, Bool.false_eq_true, if_false]
      rw [show kindOf [60] = 0 from rfl]
      exact fin
    · rw [show signTxt 1 = [62] from rfl, List.cons_append, List.nil_append, skip_non (by decide)]
      simp only [or_true, if_true]
      rw [show signOf (62 :: 32 :: d :: l) = ([62], 32 :: d :: l) from rfl, eskip]
      simp only [e3, Bool.false_eq_true, if_false]
      rw [show kindOf [62] = 1 from rfl]
      exact fin
    · rw [show signTxt 2 = [62, 62] from rfl, List.cons_append, List.cons_append, List.nil_append, skip_non (by decide)]
      simp only [or_true, if_true]
      rw [show signOf (62 :: 62 :: 32 :: d :: l) = ([62, 62], 32 :: d :: l) from rfl, eskip]
      simp only [e3, Bool.false_eq_true, if_false]
      rw [show kindOf [62, 62] = 2 from rfl]
      exact fin

theorem pArgs_stop {n : Nat} {args : List (List Nat)} {reds : List (List Nat × Nat)} {r : List Nat} (hr : okC r) : pArgs (n + 1) args reds (skip r) = some (wrapT (.run args) reds, skip r) := by
  unfold pArgs
  rw [skip_idem]
  cases hs : skip r with
  | nil => rfl
  | cons c r2 => simp only [hr.2 c r2 hs, if_true]

theorem pArgs_words : ∀ {ws : List (List Nat)} {args : List (List Nat)} {n : Nat} {reds : List (List Nat × Nat)} {r : List Nat}, ws ≠ [] → (∀ w ∈ ws, wordOk w) → args.length + ws.length ≤ 9 → ws.length + reds.length + 3 ≤ n →
    (∀ x ∈ reds, wordOk x.1 ∧ x.2 < 3) → okC r → pArgs n args [] (joinW ws ++ (redsTxt reds ++ r)) = some (wrapT (.run (args ++ ws)) reds, skip r)
  | [], _, _, _, _, h, _, _, _, _, _ => absurd rfl h
  | [w], args, n + 1, reds, r, _, hw, ha, hn, hd, hr => by
    have hn' : reds.length + 1 ≤ n ∧ 1 ≤ n := by simp only [List.length_cons, List.length_nil] at hn; omega
    obtain ⟨m, rfl⟩ : ∃ m, n = m + 1 := ⟨n - 1, by omega⟩
    obtain ⟨d, l, e1, e2, e3, e4, e5⟩ := word_rest (p := w) (r := redsTxt reds ++ r) (hw w (List.mem_cons_self ..)) (endW_reds hr.1)
    have ha' : ¬ args.length = 9 := by simp only [List.length_cons, List.length_nil] at ha; omega
    rw [joinW, e1]
    unfold pArgs
    rw [← e1, e2]
    simp only [stops_sign e3, e3, Bool.false_eq_true, if_false, ha']
    rw [e4, e5, redirs_list hd hn'.1 hr]
    simp only [List.nil_append]
    exact pArgs_stop hr
  | w :: v :: ws, args, n + 1, reds, r, _, hw, ha, hn, hd, hr => by
    have hn' : (v :: ws).length + reds.length + 3 ≤ n ∧ 1 ≤ n := by simp only [List.length_cons] at hn ⊢; omega
    have ih := pArgs_words (ws := v :: ws) (args := args ++ [w]) (n := n) (reds := reds) (r := r) (List.cons_ne_nil _ _) (fun x hx => hw x (List.mem_cons_of_mem _ hx))
      (by rw [List.length_append, List.length_singleton]; rw [List.length_cons] at ha; omega) hn'.1 hd hr
    obtain ⟨m, rfl⟩ : ∃ m, n = m + 1 := ⟨n - 1, by omega⟩
    obtain ⟨d, l, e1, e2, e3, e4, e5⟩ := word_rest (p := w) (r := 32 :: (joinW (v :: ws) ++ (redsTxt reds ++ r))) (hw w (List.mem_cons_self ..)) (endW_sp _)
    have ha' : ¬ args.length = 9 := by simp only [List.length_cons] at ha; omega
    rw [joinW, show w ++ 32 :: joinW (v :: ws) ++ (redsTxt reds ++ r) = w ++ 32 :: (joinW (v :: ws) ++ (redsTxt reds ++ r)) by rw [List.append_assoc]; rfl]
    unfold pArgs
    rw [e2]
    simp only [stops_sign e3, e3, Bool.false_eq_true, if_false, ha']
    rw [e4, e5]
    have hj : ∀ c r2, skip (32 :: (joinW (v :: ws) ++ (redsTxt reds ++ r))) = c :: r2 → isSign c = false := by
      intro c r2 e
      rw [skip_sp] at e
      cases hh : joinW (v :: ws) ++ (redsTxt reds ++ r) with
      | nil => rw [hh] at e; cases e
      | cons c' r3 =>
        have q := join_head (fun x hx => hw x (List.mem_cons_of_mem _ hx)) (List.cons_ne_nil v ws) hh
        have hb : isBlank c' = false := by
          unfold isBlank
          simp only [Bool.or_eq_false_iff, beq_eq_false_iff_ne]
          omega
        rw [hh, skip_non hb] at e
        injection e with e1 _
        exact e1 ▸ q.2.2
    rw [redirs_stop fun c r2 e => ⟨(not_sign (hj c r2 e)).1, (not_sign (hj c r2 e)).2.1⟩]
    simp only [List.append_nil]
    rw [pArgs_congr (skip_idem _), pArgs_congr (skip_sp _), ih, List.append_assoc]
    rfl

theorem pCmd_run {ws : List (List Nat)} {reds : List (List Nat × Nat)} {n : Nat} {s r : List Nat} (hw : ∀ w ∈ ws, wordOk w) (hl : ws.length ≤ 9) (hd : ∀ x ∈ reds, wordOk x.1 ∧ x.2 < 3) (hn : ws.length + reds.length + 3 ≤ n)
    (hs : skip s = skip (joinW ws ++ (redsTxt reds ++ r))) (hr : okC r) : pCmd (n + 1) s = some (wrapT (.run ws) reds, skip r) := by
  obtain ⟨m, rfl⟩ : ∃ m, n = m + 1 := ⟨n - 1, by omega⟩
  -- the branch behind the look for a block
  have other : (∀ c r1, skip s = c :: r1 → c ≠ 40) → pCmd (m + 1 + 1) s = (match redirs (m + 1) [] (skip s) with
      | none => none
      | some (rs, r2) => pArgs (m + 1) [] rs r2) := by
    intro h
    conv => lhs; unfold pCmd
    cases hh : skip s with
    | nil => rfl
    | cons c r1 => simp only [h c r1 hh, if_false] <;> (cases redirs (m + 1) [] (c :: r1) <;> rfl)
  cases ws with
  | nil =>
    rw [show joinW [] = [] from rfl, List.nil_append] at hs
    have hrd := redirs_list (reds := reds) (acc := []) (n := m + 1) (r := r) hd (by omega) hr
    rw [other, redirs_congr (skip_idem s), redirs_congr hs, hrd]
    · exact pArgs_stop hr
    · intro c r1 e
      rw [hs] at e
      cases reds with
      | nil => exact (stop_not (hr.2 c r1 e)).2.2
      | cons x rs =>
        obtain ⟨p, k⟩ := x
        rw [show redsTxt ((p, k) :: rs) ++ r = 32 :: (signTxt k ++ (32 :: (p ++ redsTxt rs) ++ r)) by simp [redsTxt], skip_sp] at e
        have hk : signTxt k = [60] ∨ signTxt k = [62] ∨ signTxt k = [62, 62] := by
          unfold signTxt; split
          · exact .inl rfl
          · split
            · exact .inr (.inl rfl)
            · exact .inr (.inr rfl)
        rcases hk with h | h | h <;> (rw [h, List.cons_append, skip_non (by decide)] at e; injection e with e1 _; subst e1; decide)
  | cons w ws =>
    have hne : (w :: ws) ≠ [] := List.cons_ne_nil _ _
    have hpa := pArgs_words (args := []) (r := r) hne hw (by simpa using hl) hn hd hr
    obtain ⟨d, l, e1⟩ : ∃ d l, joinW (w :: ws) ++ (redsTxt reds ++ r) = d :: l := by
      cases hh : joinW (w :: ws) ++ (redsTxt reds ++ r) with
      | nil =>
        have h1 := (List.append_eq_nil_iff.mp hh).1
        have h2 := (hw w (List.mem_cons_self ..)).1
        cases ws with
        | nil => exact absurd h1 h2
        | cons v ws => rw [joinW] at h1; cases (List.append_eq_nil_iff.mp h1).2
      | cons d l => exact ⟨d, l, rfl⟩
    have q := join_head hw hne e1
    have hb : isBlank d = false := by
      unfold isBlank
      simp only [Bool.or_eq_false_iff, beq_eq_false_iff_ne]
      omega
    have hns := not_sign q.2.2
    have hs' : skip s = d :: l := by rw [hs, e1, skip_non hb]
    rw [other (fun c r1 e => by rw [hs'] at e; injection e with e2 _; exact e2 ▸ hns.2.2), redirs_congr (skip_idem s), redirs_stop (fun c r2 e => by rw [hs'] at e; injection e with e2 _; exact e2 ▸ ⟨hns.1, hns.2.1⟩)]
    dsimp only
    rw [pArgs_congr (skip_idem s), pArgs_congr hs, hpa]
    rfl

noncomputable def LineP (t : Tree) : Prop := ∀ n s r, 4 * ht t + 17 ≤ n → skip s = skip (textT t ++ r) → okL r → pLine n s = some (t, skip r)
noncomputable def PipeP (t : Tree) : Prop := ∀ n s r, 4 * ht t + 19 ≤ n → skip s = skip (pipT t ++ r) → okP r → pPipe n s = some (t, skip r)
noncomputable def CmdP (t : Tree) : Prop := ∀ n s r, 4 * ht t + 18 ≤ n → skip s = skip (grpT t ++ r) → okC r → pCmd n s = some (t, skip r)

theorem endW_one {c : Nat} {r : List Nat} (h : isWordCh c = false) : endW (c :: r) := fun d r2 e => by injection e with e1 _; exact e1 ▸ h
theorem pCmd_block {t : Tree} (hL : LineP t) {reds : List (List Nat × Nat)} {n : Nat} {s r : List Nat} (hd : ∀ x ∈ reds, wordOk x.1 ∧ x.2 < 3) (hn : 4 * ht t + 17 ≤ n) (hn2 : reds.length + 1 ≤ n)
    (hs : skip s = skip (([40, 32] ++ textT t ++ [32, 41]) ++ (redsTxt reds ++ r))) (hr : okC r) : pCmd (n + 1) s = some (wrapT t reds, skip r) := by
  have e1 : skip s = 40 :: (32 :: (textT t ++ (32 :: 41 :: (redsTxt reds ++ r)))) := by
    rw [hs]
    simp only [List.append_assoc, List.cons_append, List.nil_append]
    exact skip_non (by decide)
  have hk : skip (32 :: 41 :: (redsTxt reds ++ r)) = 41 :: (redsTxt reds ++ r) := by rw [skip_sp, skip_non (by decide)]
  have hl := hL n (32 :: (textT t ++ (32 :: 41 :: (redsTxt reds ++ r)))) (32 :: 41 :: (redsTxt reds ++ r)) hn (skip_sp _) ⟨endW_sp _, fun c r2 e => by rw [hk] at e; injection e with e1 _; exact e1.symm⟩
  unfold pCmd
  rw [e1]
  simp only [if_true]
  rw [hl]
  simp only [hk]
  rw [skip_non (show isBlank 41 = false by decide)]
  simp only [if_true]
  rw [redirs_list hd hn2 hr]
  rfl

noncomputable def spine : Tree → Tree × List (List Nat × Nat)
  | .lead t p k => ((spine t).1, (spine t).2 ++ [(p, k)])
  | .run ws => (.run ws, [])
  | .back t => (.back t, [])
  | .pair b l r => (.pair b l r, [])
theorem spine_wrap : ∀ t, wrapT (spine t).1 (spine t).2 = t
  | .lead t p k => by
    have ih := spine_wrap t
    unfold wrapT at ih ⊢
    simp only [spine, List.foldl_append, List.foldl_cons, List.foldl_nil]
    rw [ih]
  | .run _ => rfl
  | .back _ => rfl
  | .pair _ _ _ => rfl
theorem spine_ht : ∀ t, ht (spine t).1 + (spine t).2.length = ht t
  | .lead t p k => by
    have ih := spine_ht t
    simp only [spine, List.length_append, List.length_singleton, ht]
    omega
  | .run _ => rfl
  | .back _ => rfl
  | .pair _ _ _ => rfl
theorem spine_wf : ∀ {t}, wfT t → wfT (spine t).1 ∧ ∀ x ∈ (spine t).2, wordOk x.1 ∧ x.2 < 3
  | .lead t p k, h => by
    have ih := spine_wf h.1
    refine ⟨ih.1, fun x hx => ?_⟩
    rcases List.mem_append.mp hx with hx | hx
    · exact ih.2 x hx
    · rw [List.mem_singleton.mp hx]; exact h.2
  | .run _, h => ⟨h, fun _ hx => nomatch hx⟩
  | .back _, h => ⟨h, fun _ hx => nomatch hx⟩
  | .pair _ _ _, h => ⟨h, fun _ hx => nomatch hx⟩
theorem spine_base : ∀ t, (∃ ws, (spine t).1 = .run ws) ∨ isRL (spine t).1 = false
  | .lead t p k => spine_base t
  | .run ws => .inl ⟨ws, rfl⟩
  | .back _ => .inr rfl
  | .pair _ _ _ => .inr rfl
theorem spine_text : ∀ {t}, isRL t = true → ∀ r, skip (textT t ++ r) = skip (grpT (spine t).1 ++ (redsTxt (spine t).2 ++ r))
  | .run ws, _, r => rfl
  | .lead t p k, _, r => by
    have e2 : grpT (spine (.lead t p k)).1 ++ (redsTxt (spine (.lead t p k)).2 ++ r) = grpT (spine t).1 ++ (redsTxt (spine t).2 ++ (32 :: (signTxt k ++ 32 :: (p ++ r)))) := by
      simp only [spine, redsTxt_append, redsTxt, List.append_assoc, List.cons_append, List.append_nil]
    rw [e2, textT, show wrapTxt (!isRL t) (textT t) = grpT t from rfl]
    have e3 : spaced (grpT t) ++ signTxt k ++ 32 :: p ++ r = spaced (grpT t) ++ (signTxt k ++ 32 :: (p ++ r)) := by simp only [List.append_assoc, List.cons_append]
    have e4 : skip (spaced (grpT t) ++ (signTxt k ++ 32 :: (p ++ r))) = skip (grpT t ++ 32 :: (signTxt k ++ 32 :: (p ++ r))) := by
      unfold spaced
      split
      · rename_i h; rw [h, List.nil_append, List.nil_append, skip_sp]
      · rw [List.append_assoc]; rfl
    rw [e3, e4]
    cases hr : isRL t with
    | true =>
      have ih := spine_text hr (32 :: (signTxt k ++ 32 :: (p ++ r)))
      rw [show grpT t = textT t by unfold grpT wrapTxt; rw [hr]; rfl]
      exact ih
    | false =>
      have : spine t = (t, []) := by cases t <;> first | rfl | cases hr
      rw [this]
      rfl
  | .back _, h, _ => by cases h
  | .pair _ _ _, h, _ => by cases h

theorem cmd_rl {t : Tree} (hw : wfT t) (hr : isRL t = true) (ih : ∀ u, ht u < ht t → wfT u → LineP u) {n : Nat} {s r : List Nat} (hn : 4 * ht t + 14 ≤ n) (hs : skip s = skip (textT t ++ r)) (hok : okC r) : pCmd n s = some (t, skip r) := by
  have h1 := spine_ht t
  have h2 := spine_wf hw
  have h3 := spine_text hr r
  have h4 := spine_wrap t
  obtain ⟨m, rfl⟩ : ∃ m, n = m + 1 := ⟨n - 1, by omega⟩
  rw [← hs] at h3
  rcases spine_base t with ⟨ws, e⟩ | e
  · rw [e] at h1 h2 h3 h4
    have h5 : ws.length ≤ 3 := h2.1.1
    have h0 : (spine t).2.length = ht t := by rw [← h1]; simp [ht]
    have := pCmd_run (ws := ws) (reds := (spine t).2) (n := m) h2.1.2 (by omega) h2.2 (by omega) h3 hok
    rw [this, h4]
  · have hne : 0 < (spine t).2.length := by
      apply Decidable.byContradiction
      intro hz
      have hz2 : (spine t).2 = [] := List.eq_nil_of_length_eq_zero (by omega)
      rw [hz2] at h4
      have h6 : (spine t).1 = t := h4
      rw [h6, hr] at e
      cases e
    have hL := ih (spine t).1 (by omega) h2.1
    have h7 : grpT (spine t).1 = [40, 32] ++ textT (spine t).1 ++ [32, 41] := by unfold grpT wrapTxt; rw [e]; rfl
    rw [h7] at h3
    have := pCmd_block hL (reds := (spine t).2) (n := m) h2.2 (by omega) (by omega) h3 hok
    rw [this, h4]

theorem pPipe_cmd {t : Tree} {n : Nat} {s r : List Nat} (h : pCmd n s = some (t, skip r)) (hr : okP r) : pPipe (n + 1) s = some (t, skip r) := by
  unfold pPipe
  rw [h]
  dsimp only
  rw [skip_idem]
  cases hs : skip r with
  | nil => rfl
  | cons c r2 =>
    have : c ≠ 124 := by rcases hr.2 c r2 hs with rfl | rfl | rfl <;> decide
    simp only [this, if_false]

theorem pipe_pair {l r : Tree} (hl : CmdP l) (hr : PipeP r) {n : Nat} {s x : List Nat} (hn : 4 * max (ht l) (ht r) + 20 ≤ n) (hs : skip s = skip (textT (.pair true l r) ++ x)) (hok : okP x) : pPipe n s = some (.pair true l r, skip x) := by
  obtain ⟨m, rfl⟩ : ∃ m, n = m + 1 := ⟨n - 1, by omega⟩
  have e1 : textT (.pair true l r) ++ x = grpT l ++ (32 :: 124 :: (32 :: (pipT r ++ x))) := by
    rw [textT]
    simp only [grpT, pipT, List.append_assoc, List.cons_append, List.nil_append]
  rw [e1] at hs
  have hk : skip (32 :: 124 :: (32 :: (pipT r ++ x))) = 124 :: (32 :: (pipT r ++ x)) := by rw [skip_sp, skip_non (by decide)]
  have h1 := hl m s _ (by omega) hs ⟨endW_sp _, fun c r2 e => by rw [hk] at e; injection e with e1 _; subst e1; rfl⟩
  have h2 := hr m (32 :: (pipT r ++ x)) x (by omega) (skip_sp _) hok
  unfold pPipe
  rw [h1]
  dsimp only
  rw [skip_idem, hk]
  simp only [if_true]
  rw [h2]

theorem pBacks_stop {n : Nat} {t : Tree} {r : List Nat} (h : ∀ c r2, skip r = c :: r2 → c ≠ 38) : pBacks (n + 1) t r = some (t, skip r) := by
  unfold pBacks
  cases hs : skip r with
  | nil => rfl
  | cons c r2 => simp only [h c r2 hs, if_false]

-- what a line is read as up to its first sign that is neither a pipe nor a background
theorem left_reads : ∀ {t : Tree}, wfT t → (∀ u, ht u ≤ ht t → wfT u → PipeP u) → ∀ {n : Nat} {s r : List Nat}, 4 * ht t + 19 ≤ n →
    skip s = skip (wrapTxt (isSemi t) (textT t) ++ r) → okP r → ∃ t0 r0 k, pPipe n s = some (t0, r0) ∧ k ≤ ht t ∧ ∀ m, pBacks (m + k) t0 r0 = pBacks m t (skip r)
  | .back t, hw, hp, n, s, r, hn, hs, hok => by
    have e1 : wrapTxt (isSemi (.back t)) (textT (.back t)) ++ r = wrapTxt (isSemi t) (textT t) ++ (32 :: 38 :: r) := by
      rw [show wrapTxt (isSemi (.back t)) (textT (.back t)) = textT (.back t) from rfl, textT, List.append_assoc]; rfl
    rw [e1] at hs
    have hk : skip (32 :: 38 :: r) = 38 :: r := by rw [skip_sp, skip_non (by decide)]
    obtain ⟨t0, r0, k, h1, h2, h3⟩ := left_reads (t := t) (n := n) (s := s) (r := 32 :: 38 :: r) hw (fun u hu hwu => hp u (by simp only [ht]; omega) hwu) (by simp only [ht] at hn; omega) hs
      ⟨endW_sp _, fun c r2 e => by rw [hk] at e; injection e with e1 _; exact .inr (.inl e1.symm)⟩
    refine ⟨t0, r0, k + 1, h1, by simp only [ht]; omega, fun m => ?_⟩
    rw [show m + (k + 1) = (m + 1) + k by omega, h3, hk]
    conv => lhs; unfold pBacks
    rw [skip_non (by decide)]
    simp only [if_true]
    exact pBacks_congr (skip_idem r).symm
  | .run ws, hw, hp, n, s, r, hn, hs, hok => ⟨_, _, 0, hp (.run ws) (Nat.le_refl _) hw n s r hn hs hok, Nat.zero_le _, fun m => rfl⟩
  | .lead t p k, hw, hp, n, s, r, hn, hs, hok => ⟨_, _, 0, hp (.lead t p k) (Nat.le_refl _) hw n s r hn hs hok, Nat.zero_le _, fun m => rfl⟩
  | .pair b x y, hw, hp, n, s, r, hn, hs, hok => ⟨_, _, 0, hp (.pair b x y) (Nat.le_refl _) hw n s r hn (by cases b <;> exact hs) hok, Nat.zero_le _, fun m => rfl⟩

theorem line_pipe {t : Tree} {n : Nat} {s r : List Nat} (h : pPipe (n + 1) s = some (t, skip r)) (hr : okL r) : pLine (n + 2) s = some (t, skip r) := by
  unfold pLine
  rw [h]
  dsimp only
  rw [pBacks_stop (fun c r2 e => by rw [skip_idem] at e; rw [hr.2 c r2 e]; decide), skip_idem]
  cases hs : skip r with
  | nil => rfl
  | cons c r2 =>
    have : c ≠ 59 := by rw [hr.2 c r2 hs]; decide
    simp only [this, if_false]

theorem line_of {t : Tree} (hw : wfT t) (ih : ∀ u, ht u < ht t → wfT u → CmdP u ∧ PipeP u ∧ LineP u) : LineP t := by
  intro n s r hn hs hok
  obtain ⟨n, rfl⟩ : ∃ m, n = m + 2 := ⟨n - 2, by omega⟩
  match t, hw, ih, hn, hs with
  | .run ws, hw, ih, hn, hs =>
    exact line_pipe (pPipe_cmd (cmd_rl hw rfl (fun u hu hwu => (ih u hu hwu).2.2) (by omega) hs hok.p.c) hok.p) hok
  | .lead t p k, hw, ih, hn, hs =>
    exact line_pipe (pPipe_cmd (cmd_rl hw rfl (fun u hu hwu => (ih u hu hwu).2.2) (by omega) hs hok.p.c) hok.p) hok
  | .back t, hw, ih, hn, hs =>
    have hk : skip (32 :: 38 :: r) = 38 :: r := by rw [skip_sp, skip_non (by decide)]
    rw [textT, List.append_assoc] at hs
    simp only [ht] at hn
    obtain ⟨t0, r0, k, h1, h2, h3⟩ := left_reads (t := t) (n := n + 1) (s := s) (r := 32 :: 38 :: r) hw (fun u hu hwu => (ih u (by simp only [ht]; omega) hwu).2.1) (by omega) hs
      ⟨endW_sp _, fun c r2 e => by rw [hk] at e; injection e with e1 _; exact .inr (.inl e1.symm)⟩
    have h4 : pBacks (n + 1) t0 r0 = some (.back t, skip r) := by
      obtain ⟨m, hm⟩ : ∃ m, n + 1 = (m + 2) + k := ⟨n - 1 - k, by omega⟩
      rw [hm, h3, hk]
      unfold pBacks
      rw [skip_non (by decide)]
      simp only [if_true]
      exact pBacks_stop fun c r2 e => by rw [hok.2 c r2 e]; decide
    unfold pLine
    rw [h1]
    dsimp only
    rw [h4]
    cases hs2 : skip r with
    | nil => rfl
    | cons c r2 =>
      have : c ≠ 59 := by rw [hok.2 c r2 hs2]; decide
      simp only [this, if_false]
  | .pair true x y, hw, ih, hn, hs =>
    simp only [ht] at hn
    have hx := (ih x (by simp only [ht]; omega) hw.1).1
    have hy := (ih y (by simp only [ht]; omega) hw.2).2.1
    exact line_pipe (pipe_pair hx hy (by omega) hs hok.p) hok
  | .pair false x y, hw, ih, hn, hs =>
    simp only [ht] at hn
    have hk : skip (32 :: 59 :: (32 :: (textT y ++ r))) = 59 :: (32 :: (textT y ++ r)) := by rw [skip_sp, skip_non (by decide)]
    have e1 : textT (.pair false x y) ++ r = wrapTxt (isSemi x) (textT x) ++ (32 :: 59 :: (32 :: (textT y ++ r))) := by
      rw [textT]
      simp only [List.append_assoc, List.cons_append, List.nil_append]
    rw [e1] at hs
    obtain ⟨t0, r0, k, h1, h2, h3⟩ := left_reads (t := x) (n := n + 1) hw.1 (fun u hu hwu => (ih u (by simp only [ht]; omega) hwu).2.1) (by omega) hs
      ⟨endW_sp _, fun c r2 e => by rw [hk] at e; injection e with e1 _; exact .inr (.inr e1.symm)⟩
    have h4 : pBacks (n + 1) t0 r0 = some (x, 59 :: (32 :: (textT y ++ r))) := by
      obtain ⟨m, hm⟩ : ∃ m, n + 1 = (m + 1) + k := ⟨n - k, by omega⟩
      rw [hm, h3, hk, pBacks_stop fun c r2 e => by rw [skip_non (by decide)] at e; injection e with e1 _; subst e1; decide, skip_non (by decide)]
    have h5 := (ih y (by simp only [ht]; omega) hw.2).2.2 (n + 1) (32 :: (textT y ++ r)) r (by omega) (skip_sp _) hok
    unfold pLine
    rw [h1]
    dsimp only
    rw [h4]
    simp only [if_true]
    rw [h5]

theorem plain_step {t : Tree} (hw : wfT t) (ih : ∀ u, ht u < ht t → wfT u → CmdP u ∧ PipeP u ∧ LineP u) : CmdP t ∧ PipeP t ∧ LineP t := by
  have hL := line_of hw ih
  have hC : CmdP t := by
    intro n s r hn hs hok
    cases hr : isRL t with
    | true =>
      refine cmd_rl hw hr (fun u hu hwu => (ih u hu hwu).2.2) (by omega) ?_ hok
      rw [hs]; unfold grpT wrapTxt; rw [hr]; rfl
    | false =>
      obtain ⟨m, rfl⟩ : ∃ m, n = m + 1 := ⟨n - 1, by omega⟩
      refine pCmd_block hL (reds := []) (fun _ hx => nomatch hx) (by omega) (by simp only [List.length_nil]; omega) ?_ hok
      rw [hs]; unfold grpT wrapTxt; rw [hr]; rfl
  refine ⟨hC, ?_, hL⟩
  intro n s r hn hs hok
  obtain ⟨m, rfl⟩ : ∃ m, n = m + 1 := ⟨n - 1, by omega⟩
  match t, hw, ih, hC, hn, hs with
  | .run ws, hw, ih, hC, hn, hs => exact pPipe_cmd (hC m s r (by omega) hs hok.c) hok
  | .lead t p k, hw, ih, hC, hn, hs => exact pPipe_cmd (hC m s r (by omega) hs hok.c) hok
  | .back t, hw, ih, hC, hn, hs => exact pPipe_cmd (hC m s r (by omega) hs hok.c) hok
  | .pair true x y, hw, ih, hC, hn, hs =>
    have hx := (ih x (by simp only [ht]; omega) hw.1).1
    have hy := (ih y (by simp only [ht]; omega) hw.2).2.1
    simp only [ht] at hn
    exact pipe_pair hx hy (by omega) hs hok
  | .pair false x y, hw, ih, hC, hn, hs => exact pPipe_cmd (hC m s r (by omega) hs hok.c) hok

theorem plain : ∀ (h : Nat) (t : Tree), ht t ≤ h → wfT t → CmdP t ∧ PipeP t ∧ LineP t := by
  intro h
  induction h with
  | zero => 
    intro t ht0 hw
    exact plain_step hw fun u hu _ => absurd hu (by omega)
  | succ h ih => 
    intro t ht0 hw
    exact plain_step hw fun u hu hwu => ih u (by omega) hwu

theorem reads_back {t : Tree} (hw : wfT t) (hh : ht t ≤ 5) {a b : List Nat} (ha : skip (a ++ (textT t ++ b)) = skip (textT t ++ b)) (hb : skip b = []) (he : endW b) : pLine 40 (a ++ (textT t ++ b)) = some (t, []) := by
  have := (plain 5 t hh hw).2.2 40 (a ++ (textT t ++ b)) b (by omega) ha ⟨he, fun c r2 e => by rw [hb] at e; cases e⟩
  rw [this, hb]

theorem joinW_len2 : ∀ {ws : List (List Nat)}, (∀ w ∈ ws, wordOk w) → (joinW ws).length ≤ 9 * ws.length
  | [], _ => by decide
  | [w], h => by
    have := (h w (List.mem_cons_self ..)).2.1
    simp only [joinW, List.length_cons, List.length_nil]; omega
  | w :: v :: ws, h => by
    have h1 := (h w (List.mem_cons_self ..)).2.1
    have ih := joinW_len2 (ws := v :: ws) fun x hx => h x (List.mem_cons_of_mem _ hx)
    simp only [joinW, List.length_cons, List.length_append] at ih ⊢; omega
theorem wrap_len (b : Bool) (s : List Nat) : (wrapTxt b s).length ≤ s.length + 4 := by
  cases b
  · exact Nat.le_add_right _ _
  · simp only [wrapTxt, if_true, List.length_append, List.length_cons, List.length_nil]; omega
theorem text_len : ∀ {t : Tree}, wfT t → (textT t).length + 40 ≤ 70 * 2 ^ ht t
  | .run ws, h => by
    have h1 := joinW_len2 h.2
    have h2 := h.1
    simp only [textT, ht, Nat.pow_zero]; omega
  | .lead t p k, h => by
    have ih := text_len h.1
    have h1 := h.2.1.2.1
    have h2 := wrap_len (!isRL t) (textT t)
    have h3 : (spaced (wrapTxt (!isRL t) (textT t))).length ≤ (wrapTxt (!isRL t) (textT t)).length + 1 := by
      unfold spaced; split
      · exact Nat.zero_le _
      · simp
    have h4 : (signTxt k).length ≤ 2 := by unfold signTxt; split <;> (try split) <;> decide
    have h5 : 1 ≤ 2 ^ ht t := Nat.one_le_two_pow
    simp only [textT, ht, Nat.pow_succ, List.length_append, List.length_cons]; omega
  | .back t, h => by
    have ih := text_len (t := t) h
    have h2 := wrap_len (isSemi t) (textT t)
    have h5 : 1 ≤ 2 ^ ht t := Nat.one_le_two_pow
    simp only [textT, ht, Nat.pow_succ, List.length_append, List.length_cons, List.length_nil]; omega
  | .pair b l r, h => by
    have i1 := text_len h.1
    have i2 := text_len h.2
    have m1 : 2 ^ ht l ≤ 2 ^ max (ht l) (ht r) := Nat.pow_le_pow_right (by decide) (Nat.le_max_left _ _)
    have m2 : 2 ^ ht r ≤ 2 ^ max (ht l) (ht r) := Nat.pow_le_pow_right (by decide) (Nat.le_max_right _ _)
    have a1 := wrap_len (!isRL l) (textT l)
    have a2 := wrap_len (isBk r || isSemi r) (textT r)
    have a3 := wrap_len (isSemi l) (textT l)
    cases b <;> (simp only [textT, ht, Nat.pow_succ, List.length_append, List.length_cons, List.length_nil]; omega)
theorem text_len5 {t : Tree} (h : wfT t) (hh : ht t ≤ 5) : (textT t).length ≤ 3000 := by
  have h1 := text_len h
  have h2 : 2 ^ ht t ≤ 2 ^ 5 := Nat.pow_le_pow_right (by decide) hh
  omega

theorem strOk_word {w : List Nat} (h : wordOk w) : PyData.strOk (S w) = true := by
  unfold PyData.strOk S
  rw [List.all_toArray, List.all_eq_true]
  intro c hc
  have := h.2.2 c hc
  exact decide_eq_true (by omega)
theorem shape_ok : ∀ {t : Tree} {n : Nat}, wfT t → ht t + 2 ≤ n → kqdOk n (shapeD t) = true
  | .run ws, n + 2, h, _ => by
    simp only [shapeD, kqdOk, List.all_cons, List.all_nil, Bool.and_true, Bool.and_eq_true, List.all_map, List.all_eq_true, Function.comp_apply]
    exact ⟨by decide +kernel, fun w hw => strOk_word (h.2 w hw)⟩
  | .lead t p k, n + 1, h, hn => by
    have ih := shape_ok (n := n) h.1 (by simp only [ht] at hn; omega)
    have h1 := strOk_word h.2.1
    simp only [shapeD, kqdOk, List.all_cons, List.all_nil, Bool.and_true, Bool.and_eq_true]
    exact ⟨by decide +kernel, ih, h1⟩
  | .back t, n + 1, h, hn => by
    have ih := shape_ok (t := t) (n := n) h (by simp only [ht] at hn; omega)
    simp only [shapeD, kqdOk, List.all_cons, List.all_nil, Bool.and_true, Bool.and_eq_true]
    exact ⟨by decide +kernel, ih⟩
  | .pair b l r, n + 1, h, hn => by
    have i1 := shape_ok (n := n) h.1 (by simp only [ht] at hn; omega)
    have i2 := shape_ok (n := n) h.2 (by simp only [ht] at hn; omega)
    simp only [shapeD, kqdOk, List.all_cons, List.all_nil, Bool.and_true, Bool.and_eq_true]
    exact ⟨by cases b <;> decide +kernel, i1, i2⟩
theorem shape_ref {led : List (Addr × Obj)} {v : Value} {t : Tree} (h : DatIn led v (shapeD t)) : ∃ a, v = .ref a := by
  cases t <;> (unfold shapeD at h; cases h; exact ⟨_, rfl⟩)

section
variable {prog : Program} {w : World} {A : Around} {E : Value → Shared → Prop} {s : Shared} {h₀ : Heap} {L a b : Addr} {news n1 n2 : List (Addr × Obj)} {d : Dat} {Q : Value → Shared → Prop}
theorem eqv_same (hk : kqdOk 12 d = true) : PyData.eqv (kqdP d) (kqdP d) = true := (kqd_eqv 12 d d 12 hk hk).mpr rfl
theorem shaped_of (hk : kqdOk 12 d = true) : SeqAt.shaped (kqdP d) = true := by
  have := kqd_lay 12 d hk
  unfold SeqAt.shaped
  rw [this.1, Bool.true_and]
  exact decide_eq_true (by omega)
theorem ne_dat (N : News h₀ L s.heap news) (D1 : DatIn n1 (.ref a) d) (s1 : ∀ p ∈ n1, p ∈ news) (D2 : DatIn n2 (.ref b) d) (s2 : ∀ p ∈ n2, p ∈ news) (hk : kqdOk 12 d = true) (hu : A.units + 64 < cLine) (h : Q (.bool false) s) :
    wpAny (model prog w) A (compareOp .NotEq (.ref a) (.ref b)) Q E s := by
  obtain ⟨as, ra⟩ := kqd_in N 12 (D1.mono s1) hk
  obtain ⟨bs, rb⟩ := kqd_in N 12 (D2.mono s2) hk
  exact ne_dataH ra rb (shaped_of hk) (shaped_of hk) hu (by rw [eqv_same hk]; exact h)
theorem eq_dat (N : News h₀ L s.heap news) (D1 : DatIn n1 (.ref a) d) (s1 : ∀ p ∈ n1, p ∈ news) (D2 : DatIn n2 (.ref b) d) (s2 : ∀ p ∈ n2, p ∈ news) (hk : kqdOk 12 d = true) (hu : A.units + 64 < cLine) (h : Q (.bool true) s) :
    wpAny (model prog w) A (compareOp .Eq (.ref a) (.ref b)) Q E s := by
  obtain ⟨as, ra⟩ := kqd_in N 12 (D1.mono s1) hk
  obtain ⟨bs, rb⟩ := kqd_in N 12 (D2.mono s2) hk
  exact eq_dataH ra rb (shaped_of hk) (shaped_of hk) hu (by rw [eqv_same hk]; exact h)
theorem ne_strS {x : Str} {t u : Tok} (h : Q (.bool false) s) : wpAny (model prog w) A (compareOp .NotEq (.str x t) (.str x u)) Q E s :=
  P.ne_str (by rw [show (x.cps.toList != x.cps.toList) = false by simp]; exact h)
end
theorem lit_tab : Str.ofString "\t" = S [9] := by decide +kernel
theorem lit_nl : Str.ofString " \n" = S [32, 10] := by decide +kernel
local macro_rules | `(tactic| walk_at "kqsub") => `(tactic| (intro p9 hp9; repeat (first | with_reducible exact hp9 | with_reducible exact List.mem_append.mpr (.inl hp9) | (refine List.mem_append.mpr (.inr ?_)) | (refine List.mem_cons_of_mem _ ?_))))
local macro_rules | `(tactic| walk_at "kqtr") => `(tactic| first | assumption | (refine' TreeIn.mono ?s9 ?a9; (case a9 => assumption); (case s9 => walk_at "kqsub")))
local macro_rules | `(tactic| walk_at "compareOp NotEq str str") => `(tactic| (k_here; (with_reducible show wpAny _ _ (compareOp CmpOp.NotEq (Value.str (S _) _) (Value.str (S _) _)) _ _ _); (refine ne_strS ?_)))
local macro_rules | `(tactic| walk_at "compareOp NotEq ref ref") => `(tactic| (k_here; (with_reducible show wpAny _ _ (compareOp CmpOp.NotEq (Value.ref _) (Value.ref _)) _ _ _); k_dflt (refine' ne_dat ?N ?d1 ?s1 ?d2 ?s2 ?ok ?hu ?_; (case N => k_asm); (case d1 => assumption); (case d2 => assumption); (case s1 => walk_at "kqsub"); (case s2 => walk_at "kqsub"); (case ok => assumption); (case hu => ktr_units))))
local macro_rules | `(tactic| walk_at "compareOp Eq ref ref") => `(tactic| (k_here; (with_reducible show wpAny _ _ (compareOp CmpOp.Eq (Value.ref _) (Value.ref _)) _ _ _); k_dflt (refine' eq_dat ?N ?d1 ?s1 ?d2 ?s2 ?ok ?hu ?_; (case N => k_asm); (case d1 => assumption); (case d2 => assumption); (case s1 => walk_at "kqsub"); (case s2 => walk_at "kqsub"); (case ok => assumption); (case hu => ktr_units))))
local macro_rules | `(tactic| walk_at "binaryOp Add str str") => `(tactic| (k_here; (with_reducible show wpAny _ _ (binaryOp Operator.Add (Value.str _ _) (Value.str _ _)) _ _ _); (refine' add_S ?kx ?ky ?kz ?_; (case kx => first | exact lit_tab | exact lit_nl | exact rfl); (case ky => first | exact lit_tab | exact lit_nl | exact rfl); (case kz => (simp only [List.length_append, List.length_cons, List.length_nil]; omega))); intro _ _))
local macro_rules | `(tactic| walk_at "call ref") => `(tactic| (k_here; (with_reducible show wpAny _ _ (PySem.call (Value.ref 227) _ _) _ _ _); k_dflt (refine' Does.auto (parse_does (n := 40) (parse_all 40).1 ?kPar ?kSk ?kLen) ?hd ?hu ?_; (case kPar => assumption); (case kSk => exact rfl); (case kLen => assumption); (case hd => ktr_room); (case hu => ktr_units); k_whole); rintro _ _ h' tk' F' N' ⟨tl', e2, hov', htr'⟩; subst e2; (try k_sweep)))
local macro_rules | `(tactic| walk_at "call ref") => `(tactic| (k_here; (with_reducible show wpAny _ _ (PySem.call (Value.ref 269) _ _) _ _ _); k_dflt (refine' Does.auto (SayOK.use (txt := textT) ?kOk ?kTr ?kWf ?kHt ?kLn) ?hd ?hu ?_; (case kOk => assumption); (case kTr => walk_at "kqtr"); (case kWf => assumption); (case kHt => omega); (case kLn => omega); (case hd => ktr_room); (case hu => ktr_units); k_whole); rintro _ _ h' tk' F' N' ⟨e1, ts', e2⟩; subst e1; subst e2; (try k_sweep)))
local macro_rules | `(tactic| walk_at "call ref") => `(tactic| (k_here; (with_reducible show wpAny _ _ (PySem.call (Value.ref 309) _ _) _ _ _); k_dflt (refine' Does.auto (ShapeOK.use ?kOk ?kTr ?kHt) ?hd ?hu ?_; (case kOk => assumption); (case kTr => walk_at "kqtr"); (case kHt => omega); (case hd => ktr_room); (case hu => ktr_units); k_whole); rintro _ _ h' tk' F' N' ⟨tl', e2, hov', hda'⟩; subst e2; (have hrf9 := shape_ref hda'); obtain ⟨sa', hrf8⟩ := hrf9; subst hrf8; (try k_sweep)))

theorem right_news {h₀ h : Heap} {L : Addr} {a b c d e led : List (Addr × Obj)} (N : News h₀ L h (a ++ (b ++ (c ++ (d ++ (e ++ led)))))) : News h₀ L h led := fun p hp => N p (by
  simp only [List.mem_append]; exact .inr (.inr (.inr (.inr (.inr hp)))))

theorem right_does {w : World} {mean : ExcName → Option Value} {mg mb : Str → Option Value} {v sv : Value} {led : List (Addr × Obj)} {t : Tree} (htr : TreeIn led v t) (hsh : DatIn led sv (shapeD t)) (hwf : wfT t) (hht : ht t ≤ 5) :
    Does w mean mg mb 316 [v, sv] led 200 2500 (fun led' r => r = .bool true ∧ led = led') := by
  obtain ⟨sa, rfl⟩ := shape_ref hsh
  unfold Does
  k_fill
  intro dp un gd cn cs a ccd cl outer A₀ base h₀ L m s Q E B F X N T hk hd hu hret
  refine wpAny_call ?_
  k_dflt ktr_enter
  have hT := text_all 5
  have hS := shape_all 5
  have hOk : kqdOk 12 (shapeD t) = true := shape_ok hwf (by omega)
  have hln := text_len5 hwf hht
  have hl1 : (S (textT t)).length ≤ 16777216 := by rw [S_length]; omega
  have hl2 : (S (([9] ++ textT t) ++ [32, 10])).length ≤ 16777216 := by rw [S_length]; simp only [List.length_append, List.length_cons, List.length_nil]; omega
  have hp1 : pLine 40 (S (textT t)).cps.toList = some (t, []) := by
    have := reads_back hwf hht (a := []) (b := []) rfl rfl (fun _ _ e => nomatch e)
    simpa [S] using this
  have hp2 : pLine 40 (S (([9] ++ textT t) ++ [32, 10])).cps.toList = some (t, []) := by
    have := reads_back hwf hht (a := [9]) (b := [32, 10]) rfl rfl (endW_sp _)
    simpa [S] using this
  k_steps
  exact hret _ led _ _ (by k_asm) (right_news (by k_asm)) ⟨rfl, rfl⟩

noncomputable abbrev poolObj (a b : Int) (ta tb : Tok) (n : Nat) : Obj := listOf #[.int a ta, .int b tb] n
noncomputable def top90 : Int := 10 ^ 90
noncomputable def PoolOk (a b : Int) : Prop := 0 ≤ a ∧ a < top90 ∧ 0 ≤ b ∧ b < 2147483647

theorem pool_div {a b many : Int} (h : PoolOk a b) (hm : 1 ≤ many) : PoolOk (a.fdiv many) b := by
  obtain ⟨h1, h2, h3, h4⟩ := h
  have h5 : a.fdiv many = a / many := Int.fdiv_eq_ediv_of_nonneg _ (by omega)
  have h6 : 0 ≤ a / many := Int.ediv_nonneg h1 (by omega)
  have h7 : a / many ≤ a := Int.ediv_le_self _ h1
  exact ⟨by rw [h5]; exact h6, by rw [h5]; exact Int.lt_of_le_of_lt h7 h2, h3, h4⟩
theorem pool_turn {a b : Int} (h : PoolOk a b) (c : Int) : PoolOk a (c.fmod 2147483647) := ⟨h.1, h.2.1, fmod_lo _ (by decide), fmod_hi _ (by decide)⟩

theorem take_does {w : World} {mean : ExcName → Option Value} {mg mb : Str → Option Value} {pl : Addr} {a b many : Int} {ta tb tm : Tok} {n : Nat} {news : List (Addr × Obj)}
    (hne : ∀ q ∈ news, q.1 ≠ pl) (hok : PoolOk a b) (hm0 : 1 ≤ many) (hm9 : many ≤ 9) :
    Does w mean mg mb 297 [.ref pl, .int many tm] ((pl, poolObj a b ta tb n) :: news) 4 40 (fun led' r => ∃ (d : Int) (td : Tok) (a' b' : Int) (ta' tb' : Tok) (n' : Nat), r = .int d td ∧ led' = (pl, poolObj a' b' ta' tb' n') :: news ∧ 0 ≤ d ∧ d < many ∧ PoolOk a' b') := by
  obtain ⟨ha0, ha1, hb0, hb1⟩ := hok
  unfold Does
  k_fill
  intro dp un gd cn cs ad ccd cl outer A₀ base h₀ L m s Q E B F X N T hk hd hu hret
  refine wpAny_call ?_
  k_dflt ktr_enter
  k_steps
  · exact hret _ _ _ _ (by k_asm) (by k_asm) ⟨_, _, _, _, _, _, _, rfl, rfl, fmod_lo _ (by omega), fmod_hi _ (by omega), pool_div ⟨ha0, ha1, hb0, hb1⟩ hm0⟩
  · exact hret _ _ _ _ (by k_asm) (by k_asm) ⟨_, _, _, _, _, _, _, rfl, rfl, fmod_lo _ (by omega), fmod_hi _ (by omega), pool_turn ⟨ha0, ha1, hb0, hb1⟩ _⟩

section
variable {h₀ h : Heap} {L : Addr} {a b c d e f : Addr × Obj} {r : List (Addr × Obj)}
theorem News.up1 (N : News h₀ L h (a :: b :: r)) : News h₀ L h (b :: a :: r) := fun p hp => N p (by
  simp only [List.mem_cons] at hp ⊢; rcases hp with h | h | h <;> simp only [h, true_or, or_true])
theorem News.up2 (N : News h₀ L h (a :: b :: c :: r)) : News h₀ L h (c :: a :: b :: r) := fun p hp => N p (by
  simp only [List.mem_cons] at hp ⊢; rcases hp with h | h | h | h <;> simp only [h, true_or, or_true])
theorem News.up3 (N : News h₀ L h (a :: b :: c :: d :: r)) : News h₀ L h (d :: a :: b :: c :: r) := fun p hp => N p (by
  simp only [List.mem_cons] at hp ⊢; rcases hp with h | h | h | h | h <;> simp only [h, true_or, or_true])
theorem News.up4 (N : News h₀ L h (a :: b :: c :: d :: e :: r)) : News h₀ L h (e :: a :: b :: c :: d :: r) := fun p hp => N p (by
  simp only [List.mem_cons] at hp ⊢; rcases hp with h | h | h | h | h | h <;> simp only [h, true_or, or_true])
end
theorem pn_cons {x pl : Addr} {o : Obj} {r : List (Addr × Obj)} (h1 : x ≠ pl) (h2 : ∀ q ∈ r, q.1 ≠ pl) : ∀ q ∈ (x, o) :: r, q.1 ≠ pl := by
  intro q hq
  rcases List.mem_cons.mp hq with rfl | hq
  · exact h1
  · exact h2 q hq
theorem pn_app {r1 r2 : List (Addr × Obj)} {pl : Addr} (h1 : ∀ q ∈ r1, q.1 ≠ pl) (h2 : ∀ q ∈ r2, q.1 ≠ pl) : ∀ q ∈ r1 ++ r2, q.1 ≠ pl := by
  intro q hq
  rcases List.mem_append.mp hq with hq | hq
  · exact h1 q hq
  · exact h2 q hq
theorem pn_up {x pl : Addr} {o : Obj} {l : List (Addr × Obj)} (h : ∀ p ∈ l, p.1 < x) (hm : (pl, o) ∈ l) : x ≠ pl := Nat.ne_of_gt (h _ hm)
theorem pn_sym {x pl : Addr} (h : @Ne Nat pl x) : x ≠ pl := fun e => h e.symm
local macro_rules | `(tactic| walk_at "hpne") => `(tactic| first | assumption | (refine' pn_cons ?kpa ?kpb; (case kpa => first | assumption | exact pn_sym (by assumption) | (refine' pn_up ?kpc ?kpd; (case kpc => assumption); (case kpd => k_mem)) | k_ne); (case kpb => walk_at "hpne")) | (refine' pn_app ?kpa ?kpb; (case kpa => walk_at "hpne"); (case kpb => walk_at "hpne")))
local macro_rules | `(tactic| walk_at "call ref") => `(tactic| (k_here; (with_reducible show wpAny _ _ (PySem.call (Value.ref 297) _ _) _ _ _); k_dflt (refine' Does.use (take_does ?hne ?ok ?m0 ?m9) ?B ?F ?X ?N ?T ?hk ?hd ?hu ?_; (case B => k_asm); (case F => k_asm); (case X => k_asm); (case N => first | k_asm | exact News.up1 (by k_asm) | exact News.up2 (by k_asm) | exact News.up3 (by k_asm) | exact News.up4 (by k_asm)); (case T => k_asm); (case hk => first | exact rfl | assumption); (case hne => walk_at "hpne"); (case ok => assumption); (case m0 => decide); (case m9 => decide); (case hd => ktr_room); (case hu => ktr_units); k_whole); rintro _ _ h' tk' F' N' ⟨d', td', a', b', ta', tb', n', e1, e2, hd0', hd1', hpo'⟩; subst e1; subst e2; (try k_sweep)))

local macro_rules | `(tactic| walk_at "exec Assign cons ListComp") => `(tactic| (k_here; refine halt ?_))
local macro_rules | `(tactic| walk_at "CompSrc") => `(tactic| (k_here; refine halt ?_))
theorem range4 {d : Int} (h0 : 0 ≤ d) (h4 : d < 4) : Builtin.Range.small 0 d 1 = true ∧ Builtin.Range.rangeSize 0 d 1 = ((d.toNat : Nat) : Int) ∧ d.toNat ≤ sizeLine ∧ d.toNat ≤ 3 := by
  have h : d = 0 ∨ d = 1 ∨ d = 2 ∨ d = 3 := by omega
  rcases h with rfl | rfl | rfl | rfl <;> exact ⟨by decide, by decide, by rw [sizeLine_eq]; decide, by decide⟩
section
variable {prog : Program} {w : World} {A : Around} {s : Shared} {h₀ : Heap} {L : Addr} {m : Str → Option Value} {env : Env}
theorem comp_ind {elt : PySem.Expr} {x : Str} {scope : Scope} {cl : List (Str × Addr)} {S : List (Addr × Obj) → Prop} {P : Nat → Value → Prop} {Fin : List Value → List (Addr × Obj) → Prop}
    (J : List Value → List (Addr × Obj) → Prop) (n : Nat)
    (fin : ∀ ys news, J ys news → ys.length = n → Fin ys news)
    (turn : ∀ i ys news v I oI C oC D m₂ h tk (E' : Value → Shared → Prop), J ys news → P i v → LCg.NsObj oC m₂ → m₂ x = some v → Fr h₀ L h m → News h₀ L h ((I, oI) :: (C, oC) :: (D, LCg.lst ys) :: news) → LCg.Off3 I C D news → ((@Ne Nat I C) ∧ (@Ne Nat I D) ∧ (@Ne Nat C D)) →
      wpAny (model prog w) A (eval elt (compEnvC scope cl C env)) (LCg.CompEnd h₀ L m { s with heap := h, toks := tk } I oI C oC D (LCg.lst ys) S (fun y news' => J (ys ++ [y]) news')) E' { s with heap := h, toks := tk }) :
    ∀ k i ys news, J ys news → ys.length + k = n → LCg.CompRest prog w A h₀ L m env elt x scope cl s S P Fin k i ys news
  | 0, i, ys, news, hJ, hk => LCg.CompRest.zero (fin ys news hJ (by omega))
  | k + 1, i, ys, news, hJ, hk => LCg.CompRest.succ fun v I oI C oC D m₂ h tk E' hP hN hm F N off ne => by
    refine wpAny_mono (turn i ys news v I oI C oC D m₂ h tk E' hJ hP hN hm F N off ne) (fun y s₂ q => ?_) fun _ _ e => e
    obtain ⟨h', tk', news', rfl, F', N', off', hS, hJ'⟩ := q
    exact ⟨h', tk', news', rfl, F', N', off', hS, comp_ind J n fin turn k (i + 1) (ys ++ [y]) news' hJ' (by rw [List.length_append, List.length_singleton]; omega)⟩
theorem pick_word {E : Value → Shared → Prop} {value slice : PySem.Expr} {l : Addr} {items : List Value} {k : Int} {u : Tok} {Q : Value → Shared → Prop}
    (hl : s.heap.IsList l items.toArray) (h0 : 0 ≤ k) (hk : k < items.length) (hn : items.length ≤ 8) (hall : ∀ v ∈ items, ∃ w t, v = .str (S w) t ∧ wordOk w) (h : ∀ w t, wordOk w → Q (.str (S w) t) s)
    (hs : subscripted slice false (.ref l) (.int k u) = operate [.ref l, .int k u] (getItem (.ref l) (.int k u)) := by with_unfolding_all rfl) :
    wpAny (model prog w) A (subscriptTail value slice (.ref l) (.int k u)) Q E s := by
  have hlt : k.toNat < items.length := by omega
  obtain ⟨w, t, e, hw⟩ := hall _ (List.getElem_mem hlt)
  have hx : items[k.toNat]? = some (.str (S w) t) := by rw [List.getElem?_eq_getElem hlt, e]
  exact tail_any hl.typeIs slot_list_getitem.lookup (wpAny_getItem_list hl h0 (by omega) (by simpa using hx) (h w t hw)) hs
theorem pick_three {E : Value → Shared → Prop} {value slice : PySem.Expr} {l : Addr} {a b c : Value} {k : Int} {u : Tok} {Q : Value → Shared → Prop}
    (hl : s.heap.IsList l #[a, b, c]) (h0 : 0 ≤ k) (hk : k < 3) (ha : Q a s) (hb : Q b s) (hc : Q c s)
    (hs : subscripted slice false (.ref l) (.int k u) = operate [.ref l, .int k u] (getItem (.ref l) (.int k u)) := by with_unfolding_all rfl) :
    wpAny (model prog w) A (subscriptTail value slice (.ref l) (.int k u)) Q E s := by
  have h : k = 0 ∨ k = 1 ∨ k = 2 := by omega
  rcases h with rfl | rfl | rfl
  · exact tail_any hl.typeIs slot_list_getitem.lookup (wpAny_getItem_list hl (by decide) (by decide) rfl ha) hs
  · exact tail_any hl.typeIs slot_list_getitem.lookup (wpAny_getItem_list hl (by decide) (by decide) rfl hb) hs
  · exact tail_any hl.typeIs slot_list_getitem.lookup (wpAny_getItem_list hl (by decide) (by decide) rfl hc) hs
end
theorem w_ls : Str.ofString "ls" = S [108, 115] := by decide +kernel
theorem w_l : Str.ofString "-l" = S [45, 108] := by decide +kernel
theorem w_ab : Str.ofString "a.b" = S [97, 46, 98] := by decide +kernel
theorem w_x1 : Str.ofString "x1" = S [120, 49] := by decide +kernel
theorem w_q : Str.ofString "'q'" = S [39, 113, 39] := by decide +kernel
theorem w_sl : Str.ofString "/" = S [47] := by decide +kernel
theorem w_f : Str.ofString "f" = S [102] := by decide +kernel
theorem w_g : Str.ofString "../g" = S [46, 46, 47, 103] := by decide +kernel
theorem w_h : Str.ofString "h.txt" = S [104, 46, 116, 120, 116] := by decide +kernel
noncomputable def wordB (w : List Nat) : Bool := !w.isEmpty && decide (w.length ≤ 8) && w.all fun c => decide (33 ≤ c) && decide (c < 127) && !isSign c
theorem wordOk_of {w : List Nat} (h : wordB w = true) : wordOk w := by
  unfold wordB at h
  simp only [Bool.and_eq_true, Bool.not_eq_true', List.isEmpty_eq_false_iff, decide_eq_true_eq, List.all_eq_true] at h
  exact ⟨h.1.1, h.1.2, fun c hc => ⟨(h.2 c hc).1.1, (h.2 c hc).1.2, (h.2 c hc).2⟩⟩
theorem six_words {t1 t2 t3 t4 t5 t6 : Tok} : ∀ v ∈ [Value.str (Str.ofString "ls") t1, .str (Str.ofString "-l") t2, .str (Str.ofString "a.b") t3, .str (Str.ofString "x1") t4, .str (Str.ofString "'q'") t5, .str (Str.ofString "/") t6], ∃ w t, v = .str (S w) t ∧ wordOk w := by
  intro v hv
  simp only [List.mem_cons, List.not_mem_nil, or_false] at hv
  rcases hv with rfl | rfl | rfl | rfl | rfl | rfl
  · exact ⟨_, _, by rw [w_ls], wordOk_of (by decide)⟩
  · exact ⟨_, _, by rw [w_l], wordOk_of (by decide)⟩
  · exact ⟨_, _, by rw [w_ab], wordOk_of (by decide)⟩
  · exact ⟨_, _, by rw [w_x1], wordOk_of (by decide)⟩
  · exact ⟨_, _, by rw [w_q], wordOk_of (by decide)⟩
  · exact ⟨_, _, by rw [w_sl], wordOk_of (by decide)⟩
theorem three_words {t1 t2 t3 : Tok} : ∀ v ∈ [Value.str (Str.ofString "f") t1, .str (Str.ofString "../g") t2, .str (Str.ofString "h.txt") t3], ∃ w t, v = .str (S w) t ∧ wordOk w := by
  intro v hv
  simp only [List.mem_cons, List.not_mem_nil, or_false] at hv
  rcases hv with rfl | rfl | rfl
  · exact ⟨_, _, by rw [w_f], wordOk_of (by decide)⟩
  · exact ⟨_, _, by rw [w_g], wordOk_of (by decide)⟩
  · exact ⟨_, _, by rw [w_h], wordOk_of (by decide)⟩
local macro_rules | `(tactic| walk_at "CompEnd") => `(tactic| (k_here; refine halt ?_))
local macro_rules | `(tactic| walk_at "subscriptTail") => `(tactic| (k_here; (with_reducible show wpAny _ _ (subscriptTail _ _ (Value.ref _) (Value.int _ _)) _ _ _); k_dflt (refine' pick_word ?kl ?k0 ?k1 ?k8 ?ka ?_ ?ks; (case kl => exact News.isList (by k_asm) (by k_mem)); (case ka => first | exact six_words | exact three_words); (case k0 => assumption); (case k1 => first | assumption | (simp only [List.length_cons, List.length_nil]; omega)); (case k8 => exact Nat.le_of_ble_eq_true rfl); (case ks => with_unfolding_all rfl)); intro _ _ _))
noncomputable def MadePost (pl : Addr) (news : List (Addr × Obj)) (d : Nat) (led' : List (Addr × Obj)) (r : Value) : Prop :=
  ∃ (tl : List (Addr × Obj)) (x : Addr) (a' b' : Int) (ta' tb' : Tok) (n' : Nat) (t : Tree) (vt vs : Value) (k : Nat), r = .ref x ∧ led' = (pl, poolObj a' b' ta' tb' n') :: (tl ++ news) ∧ (∀ q ∈ tl, q.1 ≠ pl) ∧
    (x, ({ cls := .type "tuple", data := .seq #[vt, vs] k } : Obj)) ∈ tl ∧ TreeIn tl vt t ∧ DatIn tl vs (shapeD t) ∧ wfT t ∧ ht t ≤ d ∧ PoolOk a' b'
noncomputable def MadeOK (d : Nat) : Prop :=
  ∀ (w : World) (mean : ExcName → Option Value) (mg mb : Str → Option Value) (pl : Addr) (a b deep : Int) (ta tb td : Tok) (n : Nat) (news : List (Addr × Obj)), (∀ q ∈ news, q.1 ≠ pl) → PoolOk a b → deep = (d : Int) →
    Does w mean mg mb 302 [.ref pl, .int deep td] ((pl, poolObj a b ta tb n) :: news) (2 * d + 20) (40 * d + 200) (MadePost pl news d)

theorem MadeOK.use {d : Nat} (H : MadeOK d) {w : World} {mean : ExcName → Option Value} {mg mb : Str → Option Value} {pl : Addr} {a b deep : Int} {ta tb td : Tok} {n : Nat} {news : List (Addr × Obj)} (h1 : ∀ q ∈ news, q.1 ≠ pl) (h2 : PoolOk a b) (h3 : deep = (d : Int)) :
    Does w mean mg mb 302 [.ref pl, .int deep td] ((pl, poolObj a b ta tb n) :: news) (2 * d + 20) (40 * d + 200) (MadePost pl news d) := H _ _ _ _ _ _ _ _ _ _ _ _ _ h1 h2 h3
local macro_rules | `(tactic| walk_at "call ref") => `(tactic| (k_here; (with_reducible show wpAny _ _ (PySem.call (Value.ref 302) _ _) _ _ _); k_dflt (refine' Does.use (MadeOK.use ?kOk ?hne ?ok ?kdp) ?B ?F ?X ?N ?T ?hk ?hd ?hu ?_; (case kOk => assumption); (case B => k_asm); (case F => k_asm); (case X => k_asm); (case N => first | k_asm | exact News.up1 (by k_asm)); (case T => k_asm); (case hk => first | exact rfl | assumption); (case hne => walk_at "hpne"); (case ok => assumption); (case kdp => assumption); (case hd => ktr_room); (case hu => ktr_units); k_whole); rintro _ _ h' tk' F' N' ⟨tl', x', a', b', ta', tb', n', t', vt', vs', k', e1, e2, htl', hmx', htr', hda', hwf', hht', hpo'⟩; subst e1; subst e2; (try k_sweep)))

theorem turn_end {h₀ h : Heap} {L : Addr} {m : Str → Option Value} {s₁ : Shared} {tk : Nat} {pl l6 I C D c : Addr} {o6 oI oC oD oc : Obj} {a b : Int} {ta tb : Tok} {n : Nat} {news : List (Addr × Obj)} {rest : Value → List (Addr × Obj) → Prop} {y : Value}
    (F : Fr h₀ L h m) (N : News h₀ L h ((pl, poolObj a b ta tb n) :: (l6, o6) :: (I, oI) :: (C, oC) :: (D, oD) :: (c, oc) :: news)) (o1 : @Ne Nat pl I) (o2 : @Ne Nat pl C) (o3 : @Ne Nat pl D) (o4 : @Ne Nat c I) (o5 : @Ne Nat c C) (o6 : @Ne Nat c D) (o7 : LCg.Off3 I C D news)
    (hr : rest y ((pl, poolObj a b ta tb n) :: (c, oc) :: news)) : LCg.CompEnd h₀ L m s₁ I oI C oC D oD (fun _ => True) rest y { s₁ with heap := h, toks := tk } := by
  refine LCg.CompEnd.intro F N ((pl, poolObj a b ta tb n) :: (c, oc) :: news) ?_ ⟨⟨o1, o2, o3⟩, ⟨o4, o5, o6⟩, o7⟩ trivial hr
  intro p hp
  simp only [List.mem_cons] at hp ⊢
  rcases hp with h | h | h | h | h | h <;> simp only [h, true_or, or_true]
theorem words_snoc {ws : List (List Nat)} {w : List Nat} (h : ∀ w ∈ ws, wordOk w) (hw : wordOk w) : ∀ x ∈ ws ++ [w], wordOk x := by
  intro x hx
  rcases List.mem_append.mp hx with hx | hx
  · exact h x hx
  · rw [List.mem_singleton.mp hx]; exact hw
noncomputable abbrev tupOf (vs : List Value) (k : Nat) : Obj := { cls := .type "tuple", data := .seq vs.toArray k }
theorem run_end {h₀ h : Heap} {L T R al x dx D9 pl c : Addr} {oc : Obj} {news : List (Addr × Obj)} {ys : List Value} {ws : List (List Nat)} {a b hh : Int} {ta tb tk kk : Tok} {n k1 k2 n1 n2 d : Nat}
    (N : News h₀ L h ((T, tupOf [.ref x, .ref R] k1) :: (R, tupOf [.str (Str.ofString "run") tk, .ref D9] k2) :: (al, listOf ys.toArray n) :: (x, instObj 83 dx) :: (dx, runDict hh kk al) :: (D9, listOf ys.toArray n2) :: (pl, poolObj a b ta tb n1) :: (c, oc) :: news))
    (e1 : T ≠ pl) (e2 : R ≠ pl) (l1 : pl < dx) (l2 : dx < x) (l3 : x < al) (e6 : D9 ≠ pl) (e7 : c ≠ pl) (hW : Words ys ws) (hws : ∀ w ∈ ws, wordOk w) (hl : ys.length ≤ 3) (hok : PoolOk a b) :
    ∃ led', News h₀ L h led' ∧ MadePost pl news d led' (.ref T) := by
  have e5 : dx ≠ pl := Nat.ne_of_gt l1
  have e4 : x ≠ pl := Nat.ne_of_gt (Nat.lt_trans l1 l2)
  have e3 : al ≠ pl := Nat.ne_of_gt (Nat.lt_trans (Nat.lt_trans l1 l2) l3)
  refine ⟨(pl, poolObj a b ta tb n1) :: ([(T, tupOf [.ref x, .ref R] k1), (R, tupOf [.str (Str.ofString "run") tk, .ref D9] k2), (al, listOf ys.toArray n), (x, instObj 83 dx), (dx, runDict hh kk al), (D9, listOf ys.toArray n2), (c, oc)] ++ news), ?_,
    [(T, tupOf [.ref x, .ref R] k1), (R, tupOf [.str (Str.ofString "run") tk, .ref D9] k2), (al, listOf ys.toArray n), (x, instObj 83 dx), (dx, runDict hh kk al), (D9, listOf ys.toArray n2), (c, oc)], T, a, b, ta, tb, n1, .run ws, .ref x, .ref R, k1, rfl, rfl, ?_, ?_, ?_, ?_, ⟨by rw [← hW.length_eq]; exact hl, hws⟩, Nat.zero_le _, hok⟩
  · intro p hp
    refine N p ?_
    simp only [List.cons_append, List.nil_append, List.mem_cons] at hp ⊢
    rcases hp with h | h | h | h | h | h | h | h | h <;> simp only [h, true_or, or_true]
  · exact pn_cons e1 (pn_cons e2 (pn_cons e3 (pn_cons e4 (pn_cons e5 (pn_cons e6 (pn_cons e7 fun _ h => nomatch h))))))
  · exact List.mem_cons_self ..
  · exact .run (by k_mem) (by k_mem) (by k_mem) hW
  · exact .tuple (vs := [.str (Str.ofString "run") tk, .ref D9]) (n := k2) (by k_mem) (.cons (.str _ _) (.cons (.list (vs := ys) (n := n2) (by k_mem) (words_dat hW)) .nil))

theorem made_zero : MadeOK 0 := by
  intro w mean mg mb pl a b deep ta tb td n news hne hok hdeep
  unfold Does
  k_fill
  intro dp un gd cn cs ad ccd cl outer A₀ base h₀ L m s Q E B F X N T hk hd hu hret
  refine wpAny_call ?_
  k_dflt (refine' code_defC ?k1 ?k2 ?k3 ?k4 ?k5 ?kA ?kF ?kK ?k6 ?k7 ?k8 ?k9 ?kB ?kD ?_ ?c2 ?c3 ?c4; (case kA => exact rfl); (case kF => exact rfl); (case kK => assumption); (case k1 => k_asm); (case k2 => k_asm); (case k3 => k_asm); (case k4 => k_asm); (case k5 => k_asm); (case k6 => k_is); (case k7 => k_is); (case k8 => ktr_room); (case k9 => exact BindsTo.of_eq rfl); (case kB => exact rfl); (case kD => decide +kernel); (case c2 => exact rfl); (case c3 => exact rfl); (case c4 => exact rfl); k_whole; intro g' L' h' tk' cells' FG' F' N' Y' B' X' T' l1; (have hY := CellsAre.one Y'); (obtain ⟨oc, hE', d1'⟩ := hY); subst hE'; clear Y'; (try simp only [List.cons_append, List.nil_append] at N'); (try dsimp only); (try k_fold))
  have hcl0 : L' + 1 ≠ pl := Nat.ne_of_gt (Nat.lt_succ_of_lt (l1 (pl, poolObj a b ta tb n) (List.mem_cons_self ..)))
  obtain rfl : deep = 0 := by omega
  k_steps
  unfold Halt
  k_dflt (refine LCg.Assign_ListComp_U (F₀ := by k_asm) (by rfl) (by with_unfolding_all rfl) (by with_unfolding_all rfl) (by decide) (by rfl) (by decide) (by rfl) (by rfl) (by rfl) ?_)
  k_steps
  unfold Halt
  (rename PoolOk _ _ => hpo)
  (rename (0 : Int) ≤ _ => hd0)
  (rename _ < (4 : Int) => hd1)
  obtain ⟨hr1, hr2, hr3, hr4⟩ := range4 hd0 hd1
  k_dflt (refine LCg.CompSrc.range (by rfl) (by k_asm) (by k_asm) (by assumption) hr1 hr2 hr3 ?_)
  intro gg
  refine comp_ind (fun ys nw => ∃ (ws : List (List Nat)) (a1 b1 : Int) (ta1 tb1 : Tok) (n1 : Nat), nw = (pl, poolObj a1 b1 ta1 tb1 n1) :: (L' + 1, oc) :: news ∧ Words ys ws ∧ (∀ w ∈ ws, wordOk w) ∧ PoolOk a1 b1) _ ?fin ?turn _ 0 [] _ ⟨[], _, _, _, _, _, rfl, .nil, (fun _ h => nomatch h), hpo⟩ (Nat.zero_add _)
  case turn =>
    rintro i ys nw v I oI C oC D m₂ h9 tk9 E' ⟨ws, a1, b1, ta1, tb1, n1, rfl, hW, hws, hpo1⟩ ⟨tv, rfl⟩ hNs hm2 F9 N9 ⟨⟨o1, o2, o3⟩, ⟨o4, o5, o6⟩, o7⟩ ⟨ne1, ne2, ne3⟩
    (try k_fold)
    k_steps
    unfold Halt
    (rename PoolOk _ _ => hpo2)
    (rename wordOk _ => hw9)
    (rename News _ _ _ _ => N8)
    exact turn_end (by k_asm) N8 o1 o2 o3 o4 o5 o6 o7 ⟨_, _, _, _, _, _, rfl, hW.snoc _ _, words_snoc hws hw9, hpo2⟩
  case fin =>
    rintro ys nw ⟨ws, a1, b1, ta1, tb1, n1, rfl, hW, hws, hpo1⟩ hlen
    unfold LCg.FinA
    rintro D9 h9 tk9 F9 N9 ⟨q1, q2, q3⟩
    (try k_fold)
    k_steps
    (rename ∀ p ∈ (D9, _) :: _, _ => hq1)
    have hq2 : @LT.lt Nat _ pl _ := hq1 (pl, _) (List.mem_cons_of_mem _ (List.mem_cons_self ..))
    obtain ⟨led9, N9', P9⟩ := run_end (d := 0) (by k_asm) (by k_ne) (by k_ne) hq2 (by assumption) (by assumption) (by k_ne) hcl0 hW hws (by omega) hpo1
    exact hret _ _ _ _ (by k_asm) N9' P9

local macro_rules | `(tactic| walk_at "subscriptTail") => `(tactic| (k_here; (with_reducible show wpAny _ _ (subscriptTail _ _ (Value.ref _) (Value.int _ _)) _ _ _); k_dflt (refine' pick_three (a := Value.ref _) (b := Value.ref _) (c := Value.ref _) ?kl ?k0 ?k1 ?qa ?qb ?qc ?ks; (case kl => exact News.isList (by k_asm) (by k_mem)); (case k0 => assumption); (case k1 => assumption); (case ks => with_unfolding_all rfl))))
local macro_rules | `(tactic| walk_at "call ref") => `(tactic| (k_here; (with_reducible show wpAny _ _ (PySem.call (Value.ref 302) _ _) _ _ _); (refine halt ?_)))
theorem made_end {h₀ h : Heap} {L T R x dx pl : Addr} {oR ox odx : Obj} {rest tl news : List (Addr × Obj)} {a b : Int} {ta tb : Tok} {n1 k1 d : Nat} {t : Tree}
    (N : News h₀ L h ((T, tupOf [.ref x, .ref R] k1) :: (R, oR) :: (x, ox) :: (dx, odx) :: (pl, poolObj a b ta tb n1) :: rest)) (hsub : ∀ q ∈ tl ++ news, q ∈ rest)
    (e1 : T ≠ pl) (e2 : R ≠ pl) (l1 : pl < dx) (l2 : dx < x) (htl : ∀ q ∈ tl, q.1 ≠ pl)
    (htr : TreeIn ((T, tupOf [.ref x, .ref R] k1) :: (R, oR) :: (x, ox) :: (dx, odx) :: tl) (.ref x) t) (hda : DatIn ((T, tupOf [.ref x, .ref R] k1) :: (R, oR) :: (x, ox) :: (dx, odx) :: tl) (.ref R) (shapeD t))
    (hwf : wfT t) (hht : ht t ≤ d) (hok : PoolOk a b) : ∃ led', News h₀ L h led' ∧ MadePost pl news d led' (.ref T) := by
  have e5 : dx ≠ pl := Nat.ne_of_gt l1
  have e4 : x ≠ pl := Nat.ne_of_gt (Nat.lt_trans l1 l2)
  refine ⟨(pl, poolObj a b ta tb n1) :: (((T, tupOf [.ref x, .ref R] k1) :: (R, oR) :: (x, ox) :: (dx, odx) :: tl) ++ news), ?_, (T, tupOf [.ref x, .ref R] k1) :: (R, oR) :: (x, ox) :: (dx, odx) :: tl, T, a, b, ta, tb, n1, t, .ref x, .ref R, k1, rfl, rfl, ?_, List.mem_cons_self .., htr, hda, hwf, hht, hok⟩
  · intro p hp
    refine N p ?_
    simp only [List.cons_append, List.mem_cons] at hp ⊢
    rcases hp with h | h | h | h | h | h
    · simp only [h, true_or, or_true]
    · simp only [h, true_or, or_true]
    · simp only [h, true_or, or_true]
    · simp only [h, true_or, or_true]
    · simp only [h, true_or, or_true]
    · exact .inr (.inr (.inr (.inr (.inr (hsub p h)))))
  · exact pn_cons e1 (pn_cons e2 (pn_cons e4 (pn_cons e5 htl)))
theorem up4m {a b c d : Addr × Obj} {l : List (Addr × Obj)} : ∀ p ∈ l, p ∈ a :: b :: c :: d :: l := fun _ h => List.mem_cons_of_mem _ (List.mem_cons_of_mem _ (List.mem_cons_of_mem _ (List.mem_cons_of_mem _ h)))
theorem sub_news {tl news : List (Addr × Obj)} {c : Addr × Obj} : ∀ q ∈ tl ++ news, q ∈ tl ++ c :: news := fun q h => (List.mem_append.mp h).elim (fun h => List.mem_append.mpr (.inl h)) (fun h => List.mem_append.mpr (.inr (List.mem_cons_of_mem _ h)))
theorem sub_news2 {tl2 tl news : List (Addr × Obj)} {c : Addr × Obj} : ∀ q ∈ (tl2 ++ tl) ++ news, q ∈ tl2 ++ (tl ++ c :: news) := fun q h => by
  rw [List.append_assoc] at h
  exact (List.mem_append.mp h).elim (fun h => List.mem_append.mpr (.inl h)) (fun h => List.mem_append.mpr (.inr (sub_news q h)))
theorem sub_news5 {tl news : List (Addr × Obj)} {c a1 a2 a3 a4 a5 : Addr × Obj} : ∀ q ∈ tl ++ news, q ∈ a1 :: a2 :: a3 :: a4 :: a5 :: (tl ++ c :: news) := fun q h => List.mem_cons_of_mem _ (up4m q (sub_news q h))
theorem lead_end {h₀ h : Heap} {L T R x dx pl : Addr} {rest tl news : List (Addr × Obj)} {a b h1 h2 h3 h4 : Int} {ta tb c1 c2 c3 c4 q1 q2 q3 q4 : Tok} {n1 k1 k2 d : Nat} {t : Tree} {vt vs : Value} {p : List Nat} {mv wv : Int} (k : Nat)
    (N : News h₀ L h ((T, tupOf [.ref x, .ref R] k1) :: (R, tupOf [.str (Str.ofString "lead") q1, vs, .str (S p) q2, .int mv q3, .int wv q4] k2) :: (x, instObj 104 dx) :: (dx, leadDict h1 h2 h3 h4 c1 c2 c3 c4 vt (.str (S p) q2) (.int mv q3) (.int wv q4)) :: (pl, poolObj a b ta tb n1) :: rest)) (hsub : ∀ q ∈ tl ++ news, q ∈ rest)
    (e1 : T ≠ pl) (e2 : R ≠ pl) (l1 : pl < dx) (l2 : dx < x) (htl : ∀ q ∈ tl, q.1 ≠ pl) (htr : TreeIn tl vt t) (hda : DatIn tl vs (shapeD t)) (hwf : wfT t) (hht : ht t ≤ d) (hw : wordOk p) (hk : k < 3) (hok : PoolOk a b) (hm : mv = modeOf k) (hv : wv = whereOf k) :
    ∃ led', News h₀ L h led' ∧ MadePost pl news (d + 1) led' (.ref T) := by
  subst hm; subst hv
  exact made_end N hsub e1 e2 l1 l2 htl (.lead (htr.mono up4m) (by k_mem) (by k_mem)) (.tuple (vs := [_, _, _, _, _]) (n := k2) (by k_mem) (.cons (.str _ _) (.cons (hda.mono up4m) (.cons (.str _ _) (.cons (.int _ _) (.cons (.int _ _) .nil)))))) ⟨hwf, hw, hk⟩ (Nat.succ_le_succ hht) hok
theorem back_end {h₀ h : Heap} {L T R x dx pl : Addr} {rest tl news : List (Addr × Obj)} {a b h1 : Int} {ta tb c1 q1 : Tok} {n1 k1 k2 d : Nat} {t : Tree} {vt vs : Value}
    (N : News h₀ L h ((T, tupOf [.ref x, .ref R] k1) :: (R, tupOf [.str (Str.ofString "back") q1, vs] k2) :: (x, instObj 146 dx) :: (dx, backDict h1 c1 vt) :: (pl, poolObj a b ta tb n1) :: rest)) (hsub : ∀ q ∈ tl ++ news, q ∈ rest)
    (e1 : T ≠ pl) (e2 : R ≠ pl) (l1 : pl < dx) (l2 : dx < x) (htl : ∀ q ∈ tl, q.1 ≠ pl) (htr : TreeIn tl vt t) (hda : DatIn tl vs (shapeD t)) (hwf : wfT t) (hht : ht t ≤ d) (hok : PoolOk a b) :
    ∃ led', News h₀ L h led' ∧ MadePost pl news (d + 1) led' (.ref T) :=
  made_end N hsub e1 e2 l1 l2 htl (.back (htr.mono up4m) (by k_mem) (by k_mem)) (.tuple (vs := [_, _]) (n := k2) (by k_mem) (.cons (.str _ _) (.cons (hda.mono up4m) .nil))) hwf (Nat.succ_le_succ hht) hok
theorem pair_end {h₀ h : Heap} {L T R x dx pl : Addr} {rest tl1 tl2 news : List (Addr × Obj)} {a b h1 h2 h3 : Int} {ta tb c1 c2 c3 q1 : Tok} {n1 k1 k2 d : Nat} {t1 t2 : Tree} {vt1 vs1 vt2 vs2 : Value} {sg : Str} (bb : Bool)
    (N : News h₀ L h ((T, tupOf [.ref x, .ref R] k1) :: (R, tupOf [.str sg q1, vs1, vs2] k2) :: (x, instObj 125 dx) :: (dx, pairDict h1 h2 h3 c1 c2 c3 (.str sg q1) vt1 vt2) :: (pl, poolObj a b ta tb n1) :: rest)) (hsub : ∀ q ∈ (tl2 ++ tl1) ++ news, q ∈ rest)
    (e1 : T ≠ pl) (e2 : R ≠ pl) (l1 : pl < dx) (l2 : dx < x) (htl1 : ∀ q ∈ tl1, q.1 ≠ pl) (htl2 : ∀ q ∈ tl2, q.1 ≠ pl) (htr1 : TreeIn tl1 vt1 t1) (hda1 : DatIn tl1 vs1 (shapeD t1)) (htr2 : TreeIn tl2 vt2 t2) (hda2 : DatIn tl2 vs2 (shapeD t2))
    (hwf1 : wfT t1) (hht1 : ht t1 ≤ d) (hwf2 : wfT t2) (hht2 : ht t2 ≤ d) (hok : PoolOk a b) (hs : sg = signStr bb) :
    ∃ led', News h₀ L h led' ∧ MadePost pl news (d + 1) led' (.ref T) := by
  subst hs
  exact made_end N hsub e1 e2 l1 l2 (pn_app htl2 htl1) (.pair (htr1.mono fun _ h => up4m _ (List.mem_append.mpr (.inr h))) (htr2.mono fun _ h => up4m _ (List.mem_append.mpr (.inl h))) (by k_mem) (by k_mem))
    (.tuple (vs := [_, _, _]) (n := k2) (by k_mem) (.cons (.str _ _) (.cons (hda1.mono fun _ h => up4m _ (List.mem_append.mpr (.inr h))) (.cons (hda2.mono fun _ h => up4m _ (List.mem_append.mpr (.inl h))) .nil)))) ⟨hwf1, hwf2⟩ (Nat.succ_le_succ (Nat.max_le.mpr ⟨hht1, hht2⟩)) hok
theorem made_succ {d' : Nat} (hM : MadeOK d') : MadeOK (d' + 1) := by
  intro w mean mg mb pl a b deep ta tb td n news hne hok hdeep
  unfold Does
  k_fill
  intro dp un gd cn cs ad ccd cl outer A₀ base h₀ L m s Q E B F X N T hk hd hu hret
  refine wpAny_call ?_
  k_dflt (refine' code_defC ?k1 ?k2 ?k3 ?k4 ?k5 ?kA ?kF ?kK ?k6 ?k7 ?k8 ?k9 ?kB ?kD ?_ ?c2 ?c3 ?c4; (case kA => exact rfl); (case kF => exact rfl); (case kK => assumption); (case k1 => k_asm); (case k2 => k_asm); (case k3 => k_asm); (case k4 => k_asm); (case k5 => k_asm); (case k6 => k_is); (case k7 => k_is); (case k8 => ktr_room); (case k9 => exact BindsTo.of_eq rfl); (case kB => exact rfl); (case kD => decide +kernel); (case c2 => exact rfl); (case c3 => exact rfl); (case c4 => exact rfl); k_whole; intro g' L' h' tk' cells' FG' F' N' Y' B' X' T' l1; (have hY := CellsAre.one Y'); (obtain ⟨oc, hE', d1'⟩ := hY); subst hE'; clear Y'; (try simp only [List.cons_append, List.nil_append] at N'); (try dsimp only); (try k_fold))
  have hcl0 : L' + 1 ≠ pl := Nat.ne_of_gt (Nat.lt_succ_of_lt (l1 (pl, poolObj a b ta tb n) (List.mem_cons_self ..)))
  have hdp : 0 < deep := by omega
  have hdq : deep - 1 = (d' : Int) := by omega
  k_steps
  rotate_left
  · unfold Halt
    (k_here; (with_reducible show wpAny _ _ (PySem.call (Value.ref 302) _ _) _ _ _); k_dflt (refine' Does.use (MadeOK.use ?kOk ?hne ?ok ?kdp) ?B ?F ?X ?N ?T ?hk ?hd ?hu ?_; (case kOk => assumption); (case B => k_asm); (case F => k_asm); (case X => k_asm); (case N => first | k_asm | exact News.up1 (by k_asm)); (case T => k_asm); (case hk => first | exact rfl | assumption); (case hne => walk_at "hpne"); (case ok => assumption); (case kdp => assumption); (case hd => ktr_room); (case hu => ktr_units); k_whole); rintro _ _ h' tk' F' N' ⟨tl', x', a', b', ta', tb', n', t', vt', vs', k', e1, e2, htl', hmx', htr', hda', hwf', hht', hpo'⟩; subst e1; subst e2; (try k_sweep))
    k_steps
    · (rename wordOk _ => hw9)
      (rename ∀ p ∈ (pl, _) :: _, _ => hq1)
      have hq2 : @LT.lt Nat _ pl _ := hq1 (pl, _) (List.mem_cons_self ..)
      obtain ⟨led9, N9', P9⟩ := lead_end 0 (by k_asm) sub_news5 (by k_ne) (by k_ne) hq2 (by assumption) htl' htr' hda' hwf' hht' hw9 (by decide) (by assumption) rfl rfl
      exact hret _ _ _ _ (by k_asm) N9' P9
    · (rename wordOk _ => hw9)
      (rename ∀ p ∈ (pl, _) :: _, _ => hq1)
      have hq2 : @LT.lt Nat _ pl _ := hq1 (pl, _) (List.mem_cons_self ..)
      obtain ⟨led9, N9', P9⟩ := lead_end 1 (by k_asm) sub_news5 (by k_ne) (by k_ne) hq2 (by assumption) htl' htr' hda' hwf' hht' hw9 (by decide) (by assumption) rfl rfl
      exact hret _ _ _ _ (by k_asm) N9' P9
    · (rename wordOk _ => hw9)
      (rename ∀ p ∈ (pl, _) :: _, _ => hq1)
      have hq2 : @LT.lt Nat _ pl _ := hq1 (pl, _) (List.mem_cons_self ..)
      obtain ⟨led9, N9', P9⟩ := lead_end 2 (by k_asm) sub_news5 (by k_ne) (by k_ne) hq2 (by assumption) htl' htr' hda' hwf' hht' hw9 (by decide) (by assumption) rfl rfl
      exact hret _ _ _ _ (by k_asm) N9' P9
    · (rename ∀ p ∈ (pl, _) :: _, _ => hq1)
      have hq2 : @LT.lt Nat _ pl _ := hq1 (pl, _) (List.mem_cons_self ..)
      obtain ⟨led9, N9', P9⟩ := back_end (by k_asm) sub_news (by k_ne) (by k_ne) hq2 (by assumption) htl' htr' hda' hwf' hht' hpo'
      exact hret _ _ _ _ (by k_asm) N9' P9
    · unfold Halt
      (k_here; (with_reducible show wpAny _ _ (PySem.call (Value.ref 302) _ _) _ _ _); k_dflt (refine' Does.use (MadeOK.use ?kOk ?hne ?ok ?kdp) ?B ?F ?X ?N ?T ?hk ?hd ?hu ?_; (case kOk => assumption); (case B => k_asm); (case F => k_asm); (case X => k_asm); (case N => first | k_asm | exact News.up1 (by k_asm)); (case T => k_asm); (case hk => first | exact rfl | assumption); (case hne => walk_at "hpne"); (case ok => assumption); (case kdp => assumption); (case hd => ktr_room); (case hu => ktr_units); k_whole); rintro _ _ h2' tk2' F2' N2' ⟨tl2, x2, a2, b2, ta2, tb2, n2, t2, vt2, vs2, k2, e1, e2, htl2, hmx2, htr2, hda2, hwf2, hht2, hpo2⟩; subst e1; subst e2; (try k_sweep))
      k_steps
      · (rename ∀ p ∈ (pl, _) :: _, _ => hq1)
        have hq2 : @LT.lt Nat _ pl _ := hq1 (pl, _) (List.mem_cons_self ..)
        obtain ⟨led9, N9', P9⟩ := pair_end false (by k_asm) sub_news2 (by k_ne) (by k_ne) hq2 (by assumption) htl' htl2 htr' hda' htr2 hda2 hwf' hht' hwf2 hht2 hpo2 rfl
        exact hret _ _ _ _ (by k_asm) N9' P9
      · (rename ∀ p ∈ (pl, _) :: _, _ => hq1)
        have hq2 : @LT.lt Nat _ pl _ := hq1 (pl, _) (List.mem_cons_self ..)
        obtain ⟨led9, N9', P9⟩ := pair_end true (by k_asm) sub_news2 (by k_ne) (by k_ne) hq2 (by assumption) htl' htl2 htr' hda' htr2 hda2 hwf' hht' hwf2 hht2 hpo2 rfl
        exact hret _ _ _ _ (by k_asm) N9' P9
  · unfold Halt
    k_dflt (refine LCg.Assign_ListComp_U (F₀ := by k_asm) (by rfl) (by with_unfolding_all rfl) (by with_unfolding_all rfl) (by decide) (by rfl) (by decide) (by rfl) (by rfl) (by rfl) ?_)
    k_steps
    unfold Halt
    (rename PoolOk _ _ => hpo)
    (rename (0 : Int) ≤ _ => hd0)
    (rename _ < (4 : Int) => hd1)
    obtain ⟨hr1, hr2, hr3, hr4⟩ := range4 hd0 hd1
    k_dflt (refine LCg.CompSrc.range (by rfl) (by k_asm) (by k_asm) (by assumption) hr1 hr2 hr3 ?_)
    intro gg
    refine comp_ind (fun ys nw => ∃ (ws : List (List Nat)) (a1 b1 : Int) (ta1 tb1 : Tok) (n1 : Nat), nw = (pl, poolObj a1 b1 ta1 tb1 n1) :: (L' + 1, oc) :: news ∧ Words ys ws ∧ (∀ w ∈ ws, wordOk w) ∧ PoolOk a1 b1) _ ?fin ?turn _ 0 [] _ ⟨[], _, _, _, _, _, rfl, .nil, (fun _ h => nomatch h), hpo⟩ (Nat.zero_add _)
    case turn =>
      rintro i ys nw v I oI C oC D m₂ h9 tk9 E' ⟨ws, a1, b1, ta1, tb1, n1, rfl, hW, hws, hpo1⟩ ⟨tv, rfl⟩ hNs hm2 F9 N9 ⟨⟨o1, o2, o3⟩, ⟨o4, o5, o6⟩, o7⟩ ⟨ne1, ne2, ne3⟩
      (try k_fold)
      k_steps
      unfold Halt
      (rename PoolOk _ _ => hpo2)
      (rename wordOk _ => hw9)
      (rename News _ _ _ _ => N8)
      exact turn_end (by k_asm) N8 o1 o2 o3 o4 o5 o6 o7 ⟨_, _, _, _, _, _, rfl, hW.snoc _ _, words_snoc hws hw9, hpo2⟩
    case fin =>
      rintro ys nw ⟨ws, a1, b1, ta1, tb1, n1, rfl, hW, hws, hpo1⟩ hlen
      unfold LCg.FinA
      rintro D9 h9 tk9 F9 N9 ⟨q1, q2, q3⟩
      (try k_fold)
      k_steps
      (rename ∀ p ∈ (D9, _) :: _, _ => hq1)
      have hq2 : @LT.lt Nat _ pl _ := hq1 (pl, _) (List.mem_cons_of_mem _ (List.mem_cons_self ..))
      obtain ⟨led9, N9', P9⟩ := run_end (d := d' + 1) (by k_asm) (by k_ne) (by k_ne) hq2 (by assumption) (by assumption) (by k_ne) hcl0 hW hws (by omega) hpo1
      exact hret _ _ _ _ (by k_asm) N9' P9

theorem made_all : ∀ d, MadeOK d
  | 0 => made_zero
  | d + 1 => made_succ (made_all d)

local macro_rules | `(tactic| walk_at "exec For Name Subscript cons nil") => `(tactic| (k_here; (rename Fr _ _ _ _ => lF'); (with_unfolding_all refine' For_invVF lF' ?k1 ?k2 ?_; (case k1 => exact rfl); (case k2 => exact rfl); k_whole)))
theorem News.head1 {h₀ h : Heap} {L : Addr} {a : Addr × Obj} {r : List (Addr × Obj)} (N : News h₀ L h (a :: r)) : News h₀ L h [a] := fun p hp => N p (by
  rw [List.mem_singleton.mp hp]; exact List.mem_cons_self ..)
theorem foldl_inv {P : Int → Prop} {g : Int → Int → Int} (hg : ∀ a n, P (g a n)) : ∀ (l : List Int) (z : Int), P z → P (l.foldl g z)
  | [], _, h => h
  | n :: l, z, _ => foldl_inv hg l (g z n) (hg z n)
theorem pool_fold (l : List Int) : 0 ≤ l.foldl (fun a' n' => ((a' * 1000003 + 2 * if n' < 0 then -n' else n') + if decide (n' < 0) = true then 1 else 0).fmod (10 ^ Int.toNat 90)) 41 ∧
    l.foldl (fun a' n' => ((a' * 1000003 + 2 * if n' < 0 then -n' else n') + if decide (n' < 0) = true then 1 else 0).fmod (10 ^ Int.toNat 90)) 41 < top90 :=
  foldl_inv (P := fun a => 0 ≤ a ∧ a < top90) (fun _ _ => ⟨fmod_lo _ (by decide), fmod_hi _ (by decide)⟩) l 41 ⟨by decide, by decide⟩
theorem pool_does {w : World} {mean : ExcName → Option Value} {mg mb : Str → Option Value} {sl : Addr} {vs : List Value} {ns : List Int} (hi : IntsAre vs ns) (hl63 : ns.length ≤ 63) :
    ∀ (dp un : Nat) (gd : Option (List Code)) (cn : Str) (cs : Scope) (a : Addr) (ccd : Value) (cl : List (Str × Addr)) (outer : List Env) (A₀ : Around) (base h₀ : Heap) (L : Addr) (m : Str → Option Value) (s : Shared)
    (Q E : Value → Shared → Prop) (_B : Below A₀ base outer h₀) (_F : Fr h₀ L s.heap m) (_X : (Mine.K w.params).In h₀) (_N : News h₀ L s.heap [])
    (_T : Top Mine.q (looseW Mine.q [Str.ofString "BoardError"]) mean mg mb h₀) (_hk : cs.kind = .function) (_hd : dp + 10 < recursionLimit) (_hu : un + 400 < cLine) (_hsl : h₀.IsList sl vs.toArray)
    (_hret : ∀ (pl : Addr) (a b : Int) (ta tb : Tok) (n : Nat) h' tk', Fr h₀ L h' m → News h₀ L h' [(pl, poolObj a b ta tb n)] → PoolOk a b → Q (.ref pl) { s with heap := h', toks := tk' }),
    wpAny (model PySem.Challenge.rw_nz0214_01.row.prog w) (ktrTop dp un gd cn cs L a ccd cl outer) (PySem.call (.ref 290) [.ref sl]) Q E s := by
  k_fill
  intro dp un gd cn cs a ccd cl outer A₀ base h₀ L m s Q E B F X N T hk hd hu hsl hret
  refine wpAny_call ?_
  k_dflt ktr_enter
  (rename Fr h₀ L _ _ => FG9)
  have hsl' := hsl.at fun o e => FG9.keep sl o e
  clear hsl
  k_steps
  (rename News h₀ L _ _ => kN9)
  have hb := pool_fold (List.take 24 ns)
  exact hret _ _ _ _ _ _ _ _ (by k_asm) (News.head1 kN9) ⟨hb.1, hb.2, fmod_lo _ (by decide), fmod_hi _ (by decide)⟩

theorem pool_use {w : World} {mean : ExcName → Option Value} {mg mb : Str → Option Value} {sl : Addr} {vs : List Value} {ns : List Int} {dp un : Nat} {gd : Option (List Code)} {cn : Str} {cs : Scope} {a : Addr} {ccd : Value} {cl : List (Str × Addr)} {outer : List Env} {A₀ : Around} {base h₀ : Heap} {L : Addr} {m : Str → Option Value} {s : Shared}
    {Q E : Value → Shared → Prop} (hi : IntsAre vs ns) (hl63 : ns.length ≤ 63) (B : Below A₀ base outer h₀) (F : Fr h₀ L s.heap m) (X : (Mine.K w.params).In h₀) (N : News h₀ L s.heap [])
    (T : Top Mine.q (looseW Mine.q [Str.ofString "BoardError"]) mean mg mb h₀) (hk : cs.kind = .function) (hd : dp + 10 < recursionLimit) (hu : un + 400 < cLine) (hsl : h₀.IsList sl vs.toArray)
    (hret : ∀ (pl : Addr) (a b : Int) (ta tb : Tok) (n : Nat) h' tk', Fr h₀ L h' m → News h₀ L h' [(pl, poolObj a b ta tb n)] → PoolOk a b → Q (.ref pl) { s with heap := h', toks := tk' }) :
    wpAny (model PySem.Challenge.rw_nz0214_01.row.prog w) (ktrTop dp un gd cn cs L a ccd cl outer) (PySem.call (.ref 290) [.ref sl]) Q E s :=
  pool_does hi hl63 _ _ _ _ _ _ _ _ _ _ _ _ _ _ _ _ _ B F X N T hk hd hu hsl hret
local macro_rules | `(tactic| walk_at "call ref") => `(tactic| (k_here; (with_reducible show wpAny _ _ (PySem.call (Value.ref 290) _ _) _ _ _); k_dflt (refine' pool_use ?hi ?h63 ?B ?F ?X ?N ?T ?hk ?hd ?hu ?hsl ?_; (case B => k_asm); (case F => k_asm); (case X => k_asm); (case N => k_asm); (case T => k_asm); (case hsl => assumption); (case hi => assumption); (case h63 => omega); (case hk => first | exact rfl | assumption); (case hd => first | ktr_room | decide | omega); (case hu => first | ktr_units | decide | omega); k_whole); rintro pl a' b' ta' tb' n' h' tk' F' N' hpo'; (try k_sweep)))
local macro_rules | `(tactic| walk_at "call ref") => `(tactic| (k_here; (with_reducible show wpAny _ _ (PySem.call (Value.ref 316) _ _) _ _ _); (refine halt ?_)))
local macro_rules | `(tactic| walk_at "exec For Name Call cons nil") => `(tactic| (k_here; (rename Fr _ _ _ _ => lF'); (with_unfolding_all refine' For_invVF lF' ?k1 ?k2 ?_; (case k1 => exact rfl); (case k2 => exact rfl); k_whole)))
local macro_rules | `(tactic| walk_at "pyIter ref") => `(tactic| (k_here; (refine halt ?_)))
local macro_rules | `(tactic| walk_at "kmm") => `(tactic| first | (with_reducible exact List.Mem.head _) | exact List.Mem.head _ | (refine' List.mem_cons_of_mem _ ?_; walk_at "kmm"))
theorem News.pick {h₀ h : Heap} {L : Addr} {a : Addr × Obj} {led : List (Addr × Obj)} (N : News h₀ L h led) (hm : a ∈ led) : News h₀ L h [a] := fun p hp => N p (by
  rw [List.mem_singleton.mp hp]; exact hm)
noncomputable def PoolTurn (h₀ : Heap) (L pl : Addr) (x : Str) (stored : List Str) (m₀ : Str → Option Value) (own : List (Addr × Obj)) (s₁ : Shared) (Q : Flow → Shared → Prop) (f : Flow) (s₂ : Shared) : Prop :=
  match f with
  | .ret v => Q (.ret v) s₂
  | .brk => Q .next s₂
  | _ => ∃ h' tk m' news' a b ta tb n, s₂ = { s₁ with heap := h', toks := tk } ∧ Fr h₀ L h' m' ∧ News h₀ L h' news' ∧ (pl, poolObj a b ta tb n) ∈ news' ∧ (∀ p ∈ own, p ∈ news') ∧ PoolOk a b ∧ ∀ z, z ≠ x → stored.contains z = false → m' z = m₀ z
theorem pturn_end {h₀ h : Heap} {L pl : Addr} {x : Str} {stored : List Str} {m₀ m' : Str → Option Value} {own tl : List (Addr × Obj)} {s₁ : Shared} {Q : Flow → Shared → Prop} {a b : Int} {ta tb : Tok} {n tk : Nat}
    (F : Fr h₀ L h m') (N : News h₀ L h ((pl, poolObj a b ta tb n) :: (tl ++ own))) (hok : PoolOk a b) (hs : ∀ z, z ≠ x → stored.contains z = false → m' z = m₀ z) : PoolTurn h₀ L pl x stored m₀ own s₁ Q .next { s₁ with heap := h, toks := tk } :=
  ⟨h, tk, m', _, a, b, ta, tb, n, rfl, F, N, List.mem_cons_self .., fun _ h => List.mem_cons_of_mem _ (List.mem_append.mpr (.inr h)), hok, hs⟩
theorem range5 {d : Int} (h0 : 0 ≤ d) (h4 : d ≤ 4) : Builtin.Range.small 0 d 1 = true ∧ Builtin.Range.rangeSize 0 d 1 = ((d.toNat : Nat) : Int) := by
  have h : d = 0 ∨ d = 1 ∨ d = 2 ∨ d = 3 ∨ d = 4 := by omega
  rcases h with rfl | rfl | rfl | rfl | rfl <;> exact ⟨by decide, by decide⟩
theorem turn_bound (k : Nat) : 0 ≤ (1 : Int) + (if ((k : Int)).fdiv 2 < 3 then ((k : Int)).fdiv 2 else 3) ∧ (1 : Int) + (if ((k : Int)).fdiv 2 < 3 then ((k : Int)).fdiv 2 else 3) ≤ 4 := by
  rw [Int.fdiv_eq_ediv_of_nonneg _ (by omega)]
  split <;> omega
theorem turns_pool {prog : Program} {w : World} {A : Around} {E : Value → Shared → Prop} {s : Shared} {env : Env} {h₀ : Heap} {x : Str} {body : List Stmt} {Q : Flow → Shared → Prop} {r pl : Addr} {b₀ : Int} {t₀ u₀ v₀ : Tok} {a b : Int} {ta tb : Tok} {n : Nat} {m₀ : Str → Option Value} (stored : List Str)
    (hh : A.handled = none) (hr : IsRange s.heap r 0 b₀ 1 t₀ u₀ v₀) (hb : 0 ≤ b₀ ∧ b₀ ≤ 4) (F : Fr h₀ env.locals s.heap m₀) (N : News h₀ env.locals s.heap [(pl, poolObj a b ta tb n)]) (hok : PoolOk a b)
    (turn : ∀ (a b : Int) (ta tb : Tok) (n : Nat) (k : Int) t (u : Str → Option Value) h tk own, (∀ q ∈ own, q.1 ≠ pl) → PoolOk a b → Fr h₀ env.locals h (fun y => if y = x then some (.int k t) else if stored.contains y = true then u y else m₀ y) → News h₀ env.locals h ((pl, poolObj a b ta tb n) :: own) →
      wpAny (model prog w) A (execs body env) (PoolTurn h₀ env.locals pl x stored m₀ own { s with heap := h, toks := tk } Q) E { s with heap := h, toks := tk })
    (done : ∀ (u : Str → Option Value) h tk (a b : Int) (ta tb : Tok) (n : Nat), Fr h₀ env.locals h (fun y => if y = x then u y else if stored.contains y = true then u y else m₀ y) → News h₀ env.locals h [(pl, poolObj a b ta tb n)] → Q .next { s with heap := h, toks := tk }) :
    wpAny (model prog w) A (pyIter (.ref r)) (fun it s₂ => LoopAtV prog w A h₀ env x body Q E it s₂) E s := by
  obtain ⟨hr1, hr2⟩ := range5 hb.1 hb.2
  refine kst_range (σ := Int × Int × Tok × Tok × Nat) (fun c => [(pl, poolObj c.1 c.2.1 c.2.2.1 c.2.2.2.1 c.2.2.2.2)]) (fun _ => []) (fun c => PoolOk c.1 c.2.1) stored (fun _ _ => True) (a, b, ta, tb, n) hh hr hr1 hr2 F N hok (fun _ h => nomatch h) trivial ?_ ?_
  · rintro ⟨a, b, ta, tb, n⟩ pre k t u h tk own _ _ hoff hf _ F₁ N₁
    refine wpAny_mono (turn a b ta tb n k t u h tk own (fun q hq => hoff q hq pl (List.mem_singleton.mpr rfl)) hf F₁ N₁) (fun f s₂ p => ?_) fun _ _ e => e
    have fin : (∃ h' tk' m' news' a b ta tb n, s₂ = { s with heap := h', toks := tk' } ∧ Fr h₀ env.locals h' m' ∧ News h₀ env.locals h' news' ∧ (pl, poolObj a b ta tb n) ∈ news' ∧ (∀ p ∈ own, p ∈ news') ∧ PoolOk a b ∧ ∀ z, z ≠ x → stored.contains z = false → m' z = m₀ z) →
        InvEndN h₀ env.locals (KstS (fun c : Int × Int × Tok × Tok × Nat => [(pl, poolObj c.1 c.2.1 c.2.2.1 c.2.2.2.1 c.2.2.2.2)]) (fun _ => []) (fun c => PoolOk c.1 c.2.1) x stored m₀ (fun _ _ => True) (pre ++ [k])) own [pl] { s with heap := h, toks := tk } s₂ := by
      rintro ⟨h', tk', m', news', a, b, ta, tb, n, rfl, F', N', hm, ho, hp, hs⟩
      exact kst_end (a, b, ta, tb, n) F' N' (fun p hp => by rw [List.mem_singleton.mp hp]; exact hm) ho rfl hp (fun _ h => nomatch h) (fun z h1 _ h3 => hs z h1 h3) trivial
    cases f with
    | ret v => exact p
    | brk => exact p
    | next => exact fin p
    | cont => exact fin p
  · rintro ⟨a, b, ta, tb, n⟩ u h tk _ _ F₁ N₁
    exact done u h tk a b ta tb n F₁ N₁
theorem sub1 {tl own : List (Addr × Obj)} {c : Addr × Obj} : ∀ p ∈ tl, p ∈ c :: (tl ++ own) := fun _ h => List.mem_cons_of_mem _ (List.mem_append.mpr (.inl h))
theorem own1 {tl own : List (Addr × Obj)} {c : Addr × Obj} : ∀ p ∈ own, p ∈ c :: (tl ++ own) := fun _ h => List.mem_cons_of_mem _ (List.mem_append.mpr (.inr h))
noncomputable def fixT : Tree := .pair true (.pair true (.run [[97]]) (.run [])) (.back (.lead (.run [[98]]) [102] 0))
theorem w_a : Str.ofString "a" = S [97] := by decide +kernel
theorem w_b : Str.ofString "b" = S [98] := by decide +kernel
theorem words_a {t : Tok} : Words [.str (Str.ofString "a") t] [[97]] := by rw [w_a]; exact .cons .nil
theorem words_b {t : Tok} : Words [.str (Str.ofString "b") t] [[98]] := by rw [w_b]; exact .cons .nil
theorem fix_tree {led : List (Addr × Obj)} {x dx x1 dx1 xa dxa ala xe dxe ale xb dxb xl dxl xc dxc alc : Addr} {g1 g2 g3 g4 g5 g6 g7 g8 g9 g10 g11 g12 g13 g14 : Int} {c1 c2 c3 c4 c5 c6 c7 c8 c9 c10 c11 c12 c13 c14 t1 t2 t3 t4 t5 t6 t7 : Tok} {n1 n2 n3 : Nat}
    (m1 : (x, instObj 125 dx) ∈ led) (m2 : (dx, pairDict g1 g2 g3 c1 c2 c3 (.str (Str.ofString "|") t1) (.ref x1) (.ref xb)) ∈ led)
    (m3 : (x1, instObj 125 dx1) ∈ led) (m4 : (dx1, pairDict g4 g5 g6 c4 c5 c6 (.str (Str.ofString "|") t2) (.ref xa) (.ref xe)) ∈ led)
    (m5 : (xa, instObj 83 dxa) ∈ led) (m6 : (dxa, runDict g7 c7 ala) ∈ led) (m7 : (ala, listOf #[.str (Str.ofString "a") t3] n1) ∈ led)
    (m8 : (xe, instObj 83 dxe) ∈ led) (m9 : (dxe, runDict g8 c8 ale) ∈ led) (m10 : (ale, listOf #[] n2) ∈ led)
    (m11 : (xb, instObj 146 dxb) ∈ led) (m12 : (dxb, backDict g9 c9 (.ref xl)) ∈ led)
    (m13 : (xl, instObj 104 dxl) ∈ led) (m14 : (dxl, leadDict g10 g11 g12 g13 c10 c11 c12 c13 (.ref xc) (.str (Str.ofString "f") t4) (.int 0 t5) (.int 0 t6)) ∈ led)
    (m15 : (xc, instObj 83 dxc) ∈ led) (m16 : (dxc, runDict g14 c14 alc) ∈ led) (m17 : (alc, listOf #[.str (Str.ofString "b") t7] n3) ∈ led) : TreeIn led (.ref x) fixT := by
  rw [w_f] at m14
  exact .pair (.pair (.run m5 m6 m7 words_a) (.run m8 m9 m10 .nil) m3 m4) (.back (.lead (k := 0) (.run m15 m16 m17 words_b) m13 m14) m11 m12) m1 m2
theorem fix_dat {led : List (Addr × Obj)} {D D1 Da la De le Db Dl Dc lc : Addr} {t1 t2 t3 t4 t5 t6 t7 t8 t9 t10 t11 t12 : Tok} {k1 k2 k3 k4 k5 k6 k7 n1 n2 n3 : Nat}
    (m1 : (D, tupOf [.str (Str.ofString "|") t1, .ref D1, .ref Db] k1) ∈ led) (m2 : (D1, tupOf [.str (Str.ofString "|") t2, .ref Da, .ref De] k2) ∈ led)
    (m3 : (Da, tupOf [.str (Str.ofString "run") t3, .ref la] k3) ∈ led) (m4 : (la, listOf #[.str (Str.ofString "a") t4] n1) ∈ led)
    (m5 : (De, tupOf [.str (Str.ofString "run") t5, .ref le] k4) ∈ led) (m6 : (le, listOf #[] n2) ∈ led)
    (m7 : (Db, tupOf [.str (Str.ofString "back") t6, .ref Dl] k5) ∈ led) (m8 : (Dl, tupOf [.str (Str.ofString "lead") t7, .ref Dc, .str (Str.ofString "f") t8, .int 0 t9, .int 0 t10] k6) ∈ led)
    (m9 : (Dc, tupOf [.str (Str.ofString "run") t11, .ref lc] k7) ∈ led) (m10 : (lc, listOf #[.str (Str.ofString "b") t12] n3) ∈ led) : DatIn led (.ref D) (shapeD fixT) := by
  rw [w_f] at m8
  exact .tuple (vs := [_, _, _]) m1 (.cons (.str _ _) (.cons (.tuple (vs := [_, _, _]) m2 (.cons (.str _ _) (.cons (.tuple (vs := [_, _]) m3 (.cons (.str _ _) (.cons (.list (vs := [_]) m4 (words_dat words_a)) .nil)))
    (.cons (.tuple (vs := [_, _]) m5 (.cons (.str _ _) (.cons (.list (vs := []) m6 .nil) .nil))) .nil))))
    (.cons (.tuple (vs := [_, _]) m7 (.cons (.str _ _) (.cons (.tuple (vs := [_, _, _, _, _]) m8 (.cons (.str _ _) (.cons (.tuple (vs := [_, _]) m9 (.cons (.str _ _) (.cons (.list (vs := [_]) m10 (words_dat words_b)) .nil)))
      (.cons (.str _ _) (.cons (.int _ _) (.cons (.int _ _) .nil)))))) .nil))) .nil)))
theorem fix_wf : wfT fixT := ⟨⟨⟨by decide, fun w hw => by rw [List.mem_singleton.mp hw]; exact wordOk_of (by decide)⟩, ⟨by decide, fun w hw => nomatch hw⟩⟩, ⟨⟨by decide, fun w hw => by rw [List.mem_singleton.mp hw]; exact wordOk_of (by decide)⟩, wordOk_of (by decide), by decide⟩⟩
theorem fix_ht : ht fixT ≤ 5 := by decide
theorem K_at (P : Params) : asK = (K P).map (·.1) := by kernel_rfl
local macro_rules | `(tactic| k_qdec) => `(tactic| kernel_rfl)
theorem said_all : PySem.Challenge.rw_nz0214_01.wellSaid = true := by
  unfold OpenLaw.wellSaid OpenRow.wellSaid OpenRow.partSaid looksOpen
  repeat' (with_reducible refine look_both ?_ ?_)
  all_goals decide +kernel
theorem law_all : PySem.Challenge.rw_nz0214_01.Holds := by
  refine holds_law said_all fun said => ?_
  refine holds_open (q := q) (loose := [Str.ofString "BoardError"]) (Xt := fun s => xlAt q [] s && recOk PySem.Challenge.rw_nz0214_01.row.records s) (XP := XL q []) (Yf := Hook.obs (kHook K asK K_at)) (Ya := Hook.val (kHook K asK K_at)) (YP := Hook.says (kHook K asK K_at)) (N := 5310) left_all (Hook.of (kHook K asK K_at)) (Hook.keeps (kHook K asK K_at))
    (fun s e => xl_of s (Bool.and_eq_true_iff.mp e).1) XL.keeps (by rfl) (by rfl) (by rfl) (fun s e => recFacts_of (Bool.and_eq_true_iff.mp e).2) (by rfl) (by first | assumption | decide +kernel) (by decide +kernel) ⟨rfl, rfl, rfl, rfl, rfl, by decide +kernel⟩ ?hw ?hc
  case hw => w_witness2
  clear said
  w_strict (k_go0; (all_goals try k_fold); k_steps
            unfold Halt
            (k_here; k_dflt (refine' Does.use (right_does (t := fixT) ?ftr ?fda fix_wf fix_ht) ?B ?F ?X ?N ?T ?hk ?hd ?hu ?_; (case B => k_asm); (case F => k_asm); (case X => k_asm); (case N => k_asm); (case T => k_asm); (case ftr => exact fix_tree (by walk_at "kmm") (by walk_at "kmm") (by walk_at "kmm") (by walk_at "kmm") (by walk_at "kmm") (by walk_at "kmm") (by walk_at "kmm") (by walk_at "kmm") (by walk_at "kmm") (by walk_at "kmm") (by walk_at "kmm") (by walk_at "kmm") (by walk_at "kmm") (by walk_at "kmm") (by walk_at "kmm") (by walk_at "kmm") (by walk_at "kmm")); (case fda => exact fix_dat (by walk_at "kmm") (by walk_at "kmm") (by walk_at "kmm") (by walk_at "kmm") (by walk_at "kmm") (by walk_at "kmm") (by walk_at "kmm") (by walk_at "kmm") (by walk_at "kmm") (by walk_at "kmm")); (case hk => first | exact rfl | assumption); (case hd => first | ktr_room | decide | omega); (case hu => first | ktr_units | decide | omega); k_whole); rintro _ _ h' tk' F' N' ⟨e1, e2⟩; subst e1; subst e2)
            have N9 := News.pick (a := (_, poolObj _ _ _ _ _)) N' (by walk_at "kmm")
            clear N'
            (try k_sweep)
            k_steps
            unfold Halt
            k_here
            k_dflt (refine' turns_pool [Str.ofString "tree", Str.ofString "shape"] ?hh ?hr (turn_bound _) ?F ?N ?ok ?turn ?done; (case hr => assumption); (case F => k_asm); (case N => k_asm); (case ok => assumption); (case hh => exact rfl); k_whole)
            (case turn =>
              intro a2 b2 ta2 tb2 n2 k2 t2 u2 h2 tk2 own2 hne2 hpo2 F2 N2
              (try k_fold)
              k_steps
              · unfold Halt
                (k_here; (with_reducible show wpAny _ _ (PySem.call (Value.ref 302) _ _) _ _ _); k_dflt (refine' Does.use (MadeOK.use (d := 1) (made_all 1) hne2 hpo2 ?kdp) ?B ?F ?X ?N ?T ?hk ?hd ?hu ?_; (case kdp => exact rfl); (case B => k_asm); (case F => k_asm); (case X => k_asm); (case N => k_asm); (case T => k_asm); (case hk => first | exact rfl | assumption); (case hd => first | ktr_room | decide | omega); (case hu => first | ktr_units | decide | omega); k_whole); rintro _ _ h' tk' F' N' ⟨tl', x', a', b', ta', tb', n', t', vt', vs', k', e1, e2, htl', hmx', htr', hda', hwf', hht', hpo'⟩; subst e1; subst e2; (try k_sweep))
                k_steps
                unfold Halt
                (k_here; k_dflt (refine' Does.use (right_does (t := t') (htr'.mono sub1) (hda'.mono sub1) hwf' (Nat.le_trans hht' (by decide))) ?B ?F ?X ?N ?T ?hk ?hd ?hu ?_; (case B => k_asm); (case F => k_asm); (case X => k_asm); (case N => k_asm); (case T => k_asm); (case hk => first | exact rfl | assumption); (case hd => first | ktr_room | decide | omega); (case hu => first | ktr_units | decide | omega); k_whole); rintro _ _ h'' tk'' F'' N'' ⟨e1, e2⟩; subst e1; subst e2; (try k_sweep))
                k_steps
                exact pturn_end F'' N'' hpo' (by
                  intro z h1 h3
                  have h4 := h3
                  simp only [List.contains_cons, List.contains_nil, Bool.or_false, Bool.or_eq_false_iff, beq_eq_false_iff_ne, ne_eq] at h4
                  simp only [if_neg h1, if_neg h4.1, if_neg h4.2, h3, Bool.false_eq_true, if_false])
              · unfold Halt
                (k_here; (with_reducible show wpAny _ _ (PySem.call (Value.ref 302) _ _) _ _ _); k_dflt (refine' Does.use (MadeOK.use (d := 4) (made_all 4) hne2 hpo2 ?kdp) ?B ?F ?X ?N ?T ?hk ?hd ?hu ?_; (case kdp => exact rfl); (case B => k_asm); (case F => k_asm); (case X => k_asm); (case N => k_asm); (case T => k_asm); (case hk => first | exact rfl | assumption); (case hd => first | ktr_room | decide | omega); (case hu => first | ktr_units | decide | omega); k_whole); rintro _ _ h' tk' F' N' ⟨tl', x', a', b', ta', tb', n', t', vt', vs', k', e1, e2, htl', hmx', htr', hda', hwf', hht', hpo'⟩; subst e1; subst e2; (try k_sweep))
                k_steps
                unfold Halt
                (k_here; k_dflt (refine' Does.use (right_does (t := t') (htr'.mono sub1) (hda'.mono sub1) hwf' (Nat.le_trans hht' (by decide))) ?B ?F ?X ?N ?T ?hk ?hd ?hu ?_; (case B => k_asm); (case F => k_asm); (case X => k_asm); (case N => k_asm); (case T => k_asm); (case hk => first | exact rfl | assumption); (case hd => first | ktr_room | decide | omega); (case hu => first | ktr_units | decide | omega); k_whole); rintro _ _ h'' tk'' F'' N'' ⟨e1, e2⟩; subst e1; subst e2; (try k_sweep))
                k_steps
                exact pturn_end F'' N'' hpo' (by
                  intro z h1 h3
                  have h4 := h3
                  simp only [List.contains_cons, List.contains_nil, Bool.or_false, Bool.or_eq_false_iff, beq_eq_false_iff_ne, ne_eq] at h4
                  simp only [if_neg h1, if_neg h4.1, if_neg h4.2, h3, Bool.false_eq_true, if_false]))
            (case done =>
              intro u2 h2 tk2 a2 b2 ta2 tb2 n2 F2 N2
              (try k_fold)
              k_steps))

end Mine

set_option maxRecDepth 100000 in
set_option maxHeartbeats 8000000 in
theorem PySem.Challenge.cw_nz0214_01_holds : PySem.Challenge.rw_nz0214_01.Holds := by
  exact Mine.law_all
