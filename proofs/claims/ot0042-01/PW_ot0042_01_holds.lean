import PyProof.Rows.All
import PyProof.Methods
import PyProof.AttrMissHeap
import PyProof.CompMap
import PyProof.CompUse
import PyProof.Loops
import PyProof.CompFree
import PyProof.DefCall
import PyProof.DictCalls
import PyProof.DictStraight
import PyProof.EnumStmt
import PyProof.EnumMake
import PyProof.ExcBaseAll.Exception
import PyProof.ExcInit
import PyProof.StationsW
import PyProof.StrLaws
import PyProof.ForAppend
import PyProof.WalksMore
import PyProof.RangeFor
import PyProof.InstStore
import PyProof.InstLoad
import PyProof.InstStoreFacts
import PyProof.ListCopy
import PyProof.WalkInts
import PyProof.Rows.Catch
import PyProof.SeqI3
import PyProof.SliceMore
import PyProof.TupleOfSeq
import OpenK.KMake
import OpenK.KWalk
import OpenK.KMore
import Open.Seg
import Open.Boot
import Open.Tree
import Open.FastT9
import OpenK.KInv
import KE.KDictList
import KE.KDictOf
import KE.KRevSl
import KE.KTryMore
import Wide.All
import Lean
import PySem.Challenge.RW_ot0042_01
/-! # Text HB -/
open PySem PySem.W PyProof.Rows
set_option Elab.async false
set_option maxRecDepth 100000
namespace Mine
noncomputable abbrev pw : Program := PySem.Challenge.pw_ot0042_01
noncomputable abbrev str (s : String) : Str := Str.ofString s

/-! ## The functions of the text, found by name -/
noncomputable def defNamed (name : String) : List Stmt → Stmt
  | [] => .Pass default
  | s :: r => match s with
    | .FunctionDef n _ _ _ _ _ _ _ _ _ => if n = str name then s else defNamed name r
    | _ => defNamed name r
noncomputable def classBody (name : String) : List Stmt → List Stmt
  | [] => []
  | s :: r => match s with
    | .ClassDef n _ _ b _ _ _ _ _ _ _ => if n = str name then b else classBody name r
    | _ => classBody name r
structure FnRow where
  addr : Addr
  cls : String
  name : String
  qual : String
  dflt : Value
  mod : String
  tok : Nat
  code : Addr
noncomputable def FnRow.stmt (r : FnRow) : Stmt := defNamed r.name (if r.cls.isEmpty then pw.main.body else classBody r.cls pw.main.body)
noncomputable def fnData (r : FnRow) : Stmt → FuncData
  | .FunctionDef n args body _ _ _ sc _ _ _ => { name := n, qualname := str r.qual, params := args, body := .stmts body, scope := sc, globals := mainGlobals, closure := [], defaults := r.dflt, kwdefaults := .none, «doc» := .none, pyModule := .str (str r.mod) r.tok, annotations := none, code := .ref r.code, closureTuple := .none, builtins := builtinsNs }
  | _ => default
noncomputable def FnRow.obj (r : FnRow) : Obj := { cls := .type "function", data := .func (fnData r r.stmt) }
noncomputable def en (P : Params) (k : Str) (t : Nat) (v : Value) : DictEntry := ⟨PyData.keyHash P k, .str k t, v⟩
-- functions: address, class (0: none), name, defaults, module's text, its token, code
noncomputable def fnRows : List FnRow := [
  ⟨69, "", "run_end", "run_end", .none, "lendcore.words", 253, 68⟩,
  ⟨83, "", "blank_end", "blank_end", .none, "lendcore.words", 253, 82⟩,
  ⟨111, "", "read_sign", "read_sign", .none, "lendcore.words", 253, 110⟩,
  ⟨118, "", "read_word", "read_word", .none, "lendcore.words", 253, 117⟩,
  ⟨125, "", "word_rows", "word_rows", .none, "lendcore.words", 253, 124⟩,
  ⟨132, "", "read_words", "read_words", .none, "lendcore.words", 253, 131⟩,
  ⟨205, "", "read_type", "read_type", .none, "lendcore.parse_types", 536, 204⟩,
  ⟨212, "", "read_paren_type", "read_paren_type", .none, "lendcore.parse_types", 536, 211⟩,
  ⟨232, "", "read_spath", "read_spath", (.ref 227), "lendcore.parse_types", 536, 231⟩,
  ⟨239, "", "read_segment", "read_segment", .none, "lendcore.parse_types", 536, 238⟩,
  ⟨246, "", "read_path_name", "read_path_name", .none, "lendcore.parse_types", 536, 245⟩,
  ⟨364, "", "read_expr", "read_expr", (.ref 357), "lendcore.parse_exprs", 750, 363⟩,
  ⟨371, "", "level_of", "level_of", .none, "lendcore.parse_exprs", 750, 370⟩,
  ⟨378, "", "read_binary", "read_binary", .none, "lendcore.parse_exprs", 750, 377⟩,
  ⟨385, "", "read_behind", "read_behind", .none, "lendcore.parse_exprs", 750, 384⟩,
  ⟨392, "", "read_cast", "read_cast", .none, "lendcore.parse_exprs", 750, 391⟩,
  ⟨399, "", "cast_behind", "cast_behind", .none, "lendcore.parse_exprs", 750, 398⟩,
  ⟨406, "", "read_unary", "read_unary", .none, "lendcore.parse_exprs", 750, 405⟩,
  ⟨413, "", "read_borrow", "read_borrow", .none, "lendcore.parse_exprs", 750, 412⟩,
  ⟨420, "", "read_postfix", "read_postfix", .none, "lendcore.parse_exprs", 750, 419⟩,
  ⟨427, "", "read_member", "read_member", .none, "lendcore.parse_exprs", 750, 426⟩,
  ⟨448, "", "read_list", "read_list", .none, "lendcore.parse_exprs", 750, 447⟩,
  ⟨455, "", "is_block_like", "is_block_like", .none, "lendcore.parse_exprs", 750, 454⟩,
  ⟨462, "", "read_primary", "read_primary", .none, "lendcore.parse_exprs", 750, 461⟩,
  ⟨469, "", "read_path_like", "read_path_like", .none, "lendcore.parse_exprs", 750, 468⟩,
  ⟨483, "", "read_paren", "read_paren", .none, "lendcore.parse_exprs", 750, 482⟩,
  ⟨581, "", "_law_pool", "_law_pool", .none, "law_ot0042_01", 1137, 580⟩,
  ⟨588, "", "_law_take", "_law_take", .none, "law_ot0042_01", 1137, 587⟩,
  ⟨595, "", "_law_one", "_law_one", .none, "law_ot0042_01", 1137, 594⟩,
  ⟨600, "", "_law_levels", "_law_levels", .none, "law_ot0042_01", 1137, 599⟩,
  ⟨607, "", "_law_path", "_law_path", .none, "law_ot0042_01", 1137, 606⟩,
  ⟨614, "", "_law_behind", "_law_behind", .none, "law_ot0042_01", 1137, 613⟩,
  ⟨621, "", "_law_operand", "_law_operand", .none, "law_ot0042_01", 1137, 620⟩,
  ⟨628, "", "_law_drawn", "_law_drawn", .none, "law_ot0042_01", 1137, 627⟩,
  ⟨633, "", "_law_parted", "_law_parted", .none, "law_ot0042_01", 1137, 632⟩,
  ⟨640, "", "_law_told", "_law_told", .none, "law_ot0042_01", 1137, 639⟩,
  ⟨645, "", "law", "law", .none, "law_ot0042_01", 1137, 644⟩,
  ⟨29, "LendError", "__init__", "LendError.__init__", (.ref 22), "lendcore.errors", 187, 28⟩,
  ⟨146, "Words", "__init__", "Words.__init__", .none, "lendcore.words", 253, 145⟩,
  ⟨154, "Words", "peek", "Words.peek", (.ref 147), "lendcore.words", 253, 153⟩,
  ⟨161, "Words", "take", "Words.take", .none, "lendcore.words", 253, 160⟩,
  ⟨169, "Words", "looks", "Words.looks", (.ref 162), "lendcore.words", 253, 168⟩,
  ⟨176, "Words", "expect", "Words.expect", .none, "lendcore.words", 253, 175⟩,
  ⟨183, "Words", "name", "Words.name", .none, "lendcore.words", 253, 182⟩]
noncomputable def globRows : List (String × Value) := [
  ("LendError", .ref 32),
  ("GrammarFault", .ref 57),
  ("KEYWORDS", .ref 61),
  ("SIGNS", .ref 62),
  ("FIGURES", (.str (str "0123456789") 347)),
  ("NAME_BEGINS", (.str (str "abcdefghijklmnopqrstuvwxyzABCDEFGHIJKLMNOPQRSTUVWXYZ_") 351)),
  ("NAME_SIGNS", (.str (str "abcdefghijklmnopqrstuvwxyzABCDEFGHIJKLMNOPQRSTUVWXYZ_0123456789") 353)),
  ("BLANKS", (.str (str " \t\x0d\n") 355)),
  ("run_end", .ref 69),
  ("blank_end", .ref 83),
  ("read_sign", .ref 111),
  ("read_word", .ref 118),
  ("word_rows", .ref 125),
  ("read_words", .ref 132),
  ("Words", .ref 193),
  ("PATH_WORDS", .ref 198),
  ("read_type", .ref 205),
  ("read_paren_type", .ref 212),
  ("read_spath", .ref 232),
  ("read_segment", .ref 239),
  ("read_path_name", .ref 246),
  ("LEVELS", .ref 352),
  ("COMPARED", (.int 3 807)),
  ("UPDATES", .ref 354),
  ("MACROS", .ref 355),
  ("read_expr", .ref 364),
  ("level_of", .ref 371),
  ("read_binary", .ref 378),
  ("read_behind", .ref 385),
  ("read_cast", .ref 392),
  ("cast_behind", .ref 399),
  ("read_unary", .ref 406),
  ("read_borrow", .ref 413),
  ("read_postfix", .ref 420),
  ("read_member", .ref 427),
  ("read_list", .ref 448),
  ("is_block_like", .ref 455),
  ("read_primary", .ref 462),
  ("read_path_like", .ref 469),
  ("read_paren", .ref 483),
  ("_law_pool", .ref 581),
  ("_law_take", .ref 588),
  ("_law_one", .ref 595),
  ("_law_levels", .ref 600),
  ("_law_path", .ref 607),
  ("_law_behind", .ref 614),
  ("_law_operand", .ref 621),
  ("_law_drawn", .ref 628),
  ("_law_parted", .ref 633),
  ("_law_told", .ref 640),
  ("law", .ref 645)]
noncomputable def objAddrs : List Addr := [22, 31, 32, 56, 57, 61, 62, 147, 162, 192, 193, 227, 352, 357, 354, 355, 198, 69, 83, 111, 118, 125, 132, 205, 212, 232, 239, 246, 364, 371, 378, 385, 392, 399, 406, 413, 420, 427, 448, 455, 462, 469, 483, 581, 588, 595, 600, 607, 614, 621, 628, 633, 640, 645, 29, 146, 154, 161, 169, 176, 183]
noncomputable def plainObjs (P : Params) : Frag := [
  (22, { cls := (.type "tuple"), data := .seq #[(.int 0 201)] 0 }),
  (31, { cls := (.type "dict"), data := .dict #[en P (str "__module__") 196 (.str (str "lendcore.errors") 187), en P (str "__firstlineno__") 200 (.int 2 199), en P (str "__init__") 210 (.ref 29), en P (str "__static_attributes__") 213 (.ref 30), en P (str "__weakref__") 215 (.ref 33), en P (str "__doc__") 216 .none] 3 }),
  (32, { cls := (.type "type"), data := .cls { name := (str "LendError"), bases := [(.type "Exception")], mro := [(.ref 32), (.type "Exception"), (.type "BaseException"), (.type "object")], ns := 31, qualname := (str "LendError"), hasDict := true, slotNames := [], subclasses := [(.ref 45), (.ref 57)], abstract := false, collection := none, hasDel := false }, slots := #[some (.ref 15), none, some (.str (str "LendError") 189), some (.str (str "LendError") 197), some (.builtin "Exception.__new__"), some (.bool true)] }),
  (56, { cls := (.type "dict"), data := .dict #[en P (str "__module__") 244 (.str (str "lendcore.errors") 187), en P (str "__firstlineno__") 248 (.int 10 247), en P (str "__static_attributes__") 249 (.ref 55), en P (str "__doc__") 250 .none] 2 }),
  (57, { cls := (.type "type"), data := .cls { name := (str "GrammarFault"), bases := [(.ref 32)], mro := [(.ref 57), (.ref 32), (.type "Exception"), (.type "BaseException"), (.type "object")], ns := 56, qualname := (str "GrammarFault"), hasDict := true, slotNames := [], subclasses := [], abstract := false, collection := none, hasDel := false }, slots := #[some (.ref 48), none, some (.str (str "GrammarFault") 237), some (.str (str "GrammarFault") 245), some (.builtin "Exception.__new__"), some (.bool true)] }),
  (61, { cls := (.type "tuple"), data := .seq #[(.str (str "_") 265), (.str (str "Self") 266), (.str (str "as") 267), (.str (str "break") 268), (.str (str "const") 269), (.str (str "continue") 270), (.str (str "crate") 271), (.str (str "else") 272), (.str (str "enum") 273), (.str (str "false") 274), (.str (str "fn") 275), (.str (str "for") 276), (.str (str "if") 277), (.str (str "impl") 278), (.str (str "in") 279), (.str (str "let") 280), (.str (str "loop") 281), (.str (str "match") 282), (.str (str "mod") 283), (.str (str "mut") 284), (.str (str "pub") 285), (.str (str "ref") 286), (.str (str "return") 287), (.str (str "self") 288), (.str (str "struct") 289), (.str (str "super") 290), (.str (str "trait") 291), (.str (str "true") 292), (.str (str "use") 293), (.str (str "while") 294)] 0 }),
  (62, { cls := (.type "tuple"), data := .seq #[(.str (str "<<=") 296), (.str (str ">>=") 297), (.str (str "..=") 298), (.str (str "::") 299), (.str (str "->") 300), (.str (str "=>") 301), (.str (str "==") 302), (.str (str "!=") 303), (.str (str "<=") 304), (.str (str ">=") 305), (.str (str "&&") 306), (.str (str "||") 307), (.str (str "<<") 308), (.str (str ">>") 309), (.str (str "..") 310), (.str (str "+=") 311), (.str (str "-=") 312), (.str (str "*=") 313), (.str (str "/=") 314), (.str (str "%=") 315), (.str (str "&=") 316), (.str (str "|=") 317), (.str (str "^=") 318), (.str (str "(") 319), (.str (str ")") 320), (.str (str "{") 321), (.str (str "}") 322), (.str (str "[") 323), (.str (str "]") 324), (.str (str ",") 325), (.str (str ";") 326), (.str (str ":") 327), (.str (str ".") 328), (.str (str "=") 329), (.str (str "<") 330), (.str (str ">") 331), (.str (str "+") 332), (.str (str "-") 333), (.str (str "*") 334), (.str (str "/") 335), (.str (str "%") 336), (.str (str "&") 337), (.str (str "|") 338), (.str (str "^") 339), (.str (str "!") 340), (.str (str "@") 341)] 0 }),
  (147, { cls := (.type "tuple"), data := .seq #[(.int 0 474)] 0 }),
  (162, { cls := (.type "tuple"), data := .seq #[(.int 0 491)] 0 }),
  (192, { cls := (.type "dict"), data := .dict #[en P (str "__module__") 461 (.str (str "lendcore.words") 253), en P (str "__firstlineno__") 465 (.int 102 464), en P (str "__init__") 473 (.ref 146), en P (str "peek") 482 (.ref 154), en P (str "take") 490 (.ref 161), en P (str "looks") 501 (.ref 169), en P (str "expect") 509 (.ref 176), en P (str "name") 517 (.ref 183), en P (str "split_close") 525 (.ref 190), en P (str "__static_attributes__") 528 (.ref 191), en P (str "__dict__") 530 (.ref 194), en P (str "__weakref__") 532 (.ref 195), en P (str "__doc__") 533 .none] 4 }),
  (193, { cls := (.type "type"), data := .cls { name := (str "Words"), bases := [(.type "object")], mro := [(.ref 193), (.type "object")], ns := 192, qualname := (str "Words"), hasDict := true, slotNames := [], subclasses := [], abstract := false, collection := none, hasDel := false }, slots := #[none, none, some (.str (str "Words") 454), some (.str (str "Words") 462), some (.builtin "object.__new__"), some (.bool true)] }),
  (227, { cls := (.type "tuple"), data := .seq #[(.bool false)] 0 }),
  (352, { cls := (.type "dict"), data := .dict #[en P (str "||") 752 (.int 1 753), en P (str "&&") 755 (.int 2 756), en P (str "==") 758 (.int 3 759), en P (str "!=") 761 (.int 3 762), en P (str "<") 764 (.int 3 765), en P (str "<=") 767 (.int 3 768), en P (str ">") 770 (.int 3 771), en P (str ">=") 773 (.int 3 774), en P (str "|") 776 (.int 4 777), en P (str "^") 779 (.int 5 780), en P (str "&") 782 (.int 6 783), en P (str "<<") 785 (.int 7 786), en P (str ">>") 788 (.int 7 789), en P (str "+") 791 (.int 8 792), en P (str "-") 794 (.int 8 795), en P (str "*") 797 (.int 9 798), en P (str "/") 800 (.int 9 801), en P (str "%") 803 (.int 9 804)] 18 }),
  (357, { cls := (.type "tuple"), data := .seq #[(.bool false)] 0 }),
  (354, { cls := (.type "tuple"), data := .seq #[(.str (str "+=") 809), (.str (str "-=") 810), (.str (str "*=") 811), (.str (str "/=") 812), (.str (str "%=") 813), (.str (str "&=") 814), (.str (str "|=") 815), (.str (str "^=") 816), (.str (str "<<=") 817), (.str (str ">>=") 818)] 0 }),
  (355, { cls := (.type "tuple"), data := .seq #[(.str (str "panic") 820), (.str (str "assert") 821), (.str (str "print") 822)] 0 }),
  (198, { cls := (.type "tuple"), data := .seq #[(.str (str "Self") 538), (.str (str "crate") 539), (.str (str "self") 540), (.str (str "super") 541)] 0 })]

noncomputable def fnObjs : Frag := fnRows.map fun r => (r.addr, r.obj)
noncomputable def KO (P : Params) : Frag := plainObjs P ++ fnObjs

/-! ## The run of the top -/
noncomputable def topRunG (st : SharedT → Thread → Option (SharedT × Thread)) (ok : Thread → Bool) : Nat → SharedT → Thread → Option SharedT
  | 0, _, _ => none
  | n + 1, s, t => match through t with
    | true => some s
    | false => match ok t with
      | false => none
      | true => match st s t with
        | some (s', t') => topRunG st ok n s' t'
        | none => none
theorem topRunG_of {tb : String → Option Builtin} {p : Program} {w : World} {n₀ : Nat} {ann : Option Value} : ∀ {n : Nat} {s r : SharedT} {t : Thread},
    topRunG (stepT (denote tb) p w) (stepOk n₀ ann) n s t = some r → topRun tb p w n₀ ann n s.abs t = some r.abs
  | 0, _, _, _, h => by cases h
  | n + 1, s, r, t, h => by
    unfold topRunG at h
    unfold topRun
    cases ht : through t with
    | true => rw [ht] at h; cases h; rfl
    | false =>
      rw [ht] at h
      cases hk : stepOk n₀ ann t with
      | false => rw [hk] at h; cases h
      | true =>
        rw [hk] at h
        cases hs : stepT (denote tb) p w s t with
        | none => rw [hs] at h; cases h
        | some x => obtain ⟨s₂, t₂⟩ := x; rw [hs] at h; rw [stepT_spec hs]; exact topRunG_of h

noncomputable def treeL : List Obj → Nat → BT → BT
  | [], _, t => t
  | o :: l, n, t => treeL l (n + 1) (t.ins n o)
noncomputable def S0 (P : Params) (os : OsState) : SharedT := ⟨treeL (boot_heap P).objs.toList 0 .nil, 11, {}, #[], boot_drawn, boot_toks, os⟩
theorem S0_abs (P : Params) (os : OsState) : (S0 P os).abs = ⟨boot_heap P, #[], boot_drawn, boot_toks, os⟩ := by rfl

noncomputable def lawStmt : Stmt := defNamed "law" pw.main.body
noncomputable def q : Program := { pw with main := { pw.main with body := [lawStmt] } }
noncomputable def loose : List Str := (pw.main.scope.names.map (·.1)).filter fun n => !(n == str "law")
noncomputable def codeName (h : Heap) (c : Addr) : Option Str := match h.get? c with
  | some o => (match o.data with
    | .fields vs => (match vs.toList with
      | _ :: .str n _ :: _ => some n
      | _ => none)
    | _ => none)
  | none => none
noncomputable abbrev Seen3 := List (Option Obj) × List (Option Str) × List (Option Value)
noncomputable def obsG (nm : Heap → Addr → Str → Option Value) (s : Shared) : Seen3 :=
  (objAddrs.map s.heap.get?, fnRows.map fun r => codeName s.heap r.code, globRows.map (fun g => nm s.heap mainGlobals (str g.1)) ++ [nm s.heap mainGlobals (str "Exception")])
noncomputable def Ya (w : World) : Seen3 := ((KO w.params).map (fun p => some p.2), (fnRows.map fun r => some (str r.qual)), globRows.map (fun g => some g.2) ++ [none])
noncomputable abbrev tStepT := PySem.W.Fast.tw10156331382660048174
noncomputable abbrev tStepOk := PySem.W.Fast.tw6613529449190102663
noncomputable abbrev tDenote := PySem.W.Fast.tw11892475500146522536
noncomputable abbrev tTable := PySem.W.Fast.tw14364793385576792824
noncomputable abbrev tSeen := PySem.W.Fast.tw4187177175401517315
noncomputable abbrev tMods := PySem.W.Fast.tw5923862056798008813
noncomputable abbrev tMap := PySem.W.Fast.tw8920871248978507458
noncomputable def finT (H₀ : Heap) (s : Shared) :=
  (staticsOk (tMods pw.main.body) H₀ s.heap && namesBound pw s.heap && gensDone s && laidKept H₀ s.heap, tSeen q loose (tMods pw.main.body) (fun _ => true) true s, obsG tMap s)
noncomputable def runT (w : World) (os : OsState) := (topRunG (tStepT (tDenote tTable) pw w) (tStepOk 11 (some (.ref 6))) 9000 (S0 w.params os) (topStub pw)).map fun s => finT (boot_heap w.params) s.abs
theorem big_f : ∀ w : World, (fun os => runT (w.withFollow "special-get-raises" false) os) = fun _ => some (true, openGood q loose, Ya (w.withFollow "special-get-raises" false)) := fun w => by kernel_rfl
theorem big_t : ∀ w : World, (fun os => runT (w.withFollow "special-get-raises" true) os) = fun _ => some (true, openGood q loose, Ya (w.withFollow "special-get-raises" true)) := fun w => by kernel_rfl
theorem big : ∀ w : World, (fun os => runT w os) = fun _ => some (true, openGood q loose, Ya w) := fun w =>
  byRow2 "special-get-raises" (P := fun w => (fun os => runT w os) = fun _ => some (true, openGood q loose, Ya w)) big_f big_t w
/-! ## The head -/
theorem left_of {p q : Program} {loose : List Str} {Xt : Shared → Bool} {α : Type} {Yf : Shared → α} {Ya : World → α} {N : Nat} {H₀ : Params → Heap} {d₀ : Drawn} {k₀ m₀ : Nat} {ann : Option Value}
    (open_ : ∀ w : World, (fencedOpening treeTable p w N).map (fun s => (s.heap, s.gens, s.drawn, s.toks)) = some (H₀ w.params, #[], d₀, k₀))
    (size : ∀ w : World, ((H₀ w.params).isNs mainGlobals, (H₀ w.params).objs.size, (H₀ w.params).nsMap mainGlobals "__annotations__") = (true, m₀, ann))
    (run : ∀ (w : World) (os : OsState), ∃ s₁, topRun treeTable p w m₀ ann N ⟨H₀ w.params, #[], d₀, k₀, os⟩ (topStub p) = some s₁ ∧
      (staticsOk (importedModules p.main.body) (H₀ w.params) s₁.heap && namesBound p s₁.heap && gensDone s₁ && laidKept (H₀ w.params) s₁.heap) = true ∧
      openSeen q loose (importedModules p.main.body) Xt true s₁ = openGood q loose ∧ Yf s₁ = Ya w) : LeftO p q loose Xt Yf Ya N := fun w => by
  obtain ⟨⟨h, gs, d, k, os⟩, e, e'⟩ := Option.map_eq_some_iff.mp (open_ w)
  obtain ⟨rfl, rfl, rfl, rfl⟩ : h = H₀ w.params ∧ gs = #[] ∧ d = d₀ ∧ k = k₀ := by simpa using e'
  obtain ⟨z1, z2, z3⟩ : _ ∧ _ ∧ _ := by simpa only [Prod.mk.injEq] using size w
  obtain ⟨r, t, l1, l2, l3⟩ := run w os
  have f : topFrom treeTable p w N ⟨H₀ w.params, #[], d, k, os⟩ = some r := by
    unfold topFrom
    dsimp only
    rw [z1, z2, z3, t]
    show (match (staticsOk (importedModules p.main.body) (H₀ w.params) r.heap && namesBound p r.heap && gensDone r && laidKept (H₀ w.params) r.heap) with | true => _ | false => _) = _
    rw [l1]
  unfold openEnds
  rw [e]
  show (topFrom treeTable p w N _).map _ = _
  rw [f]
  exact congrArg some (Prod.ext l2 l3)
theorem runT_eq (w : World) (os : OsState) :
    runT w os = (topRunG (stepT (denote treeTable) pw w) (stepOk 11 (some (.ref 6))) 9000 (S0 w.params os) (topStub pw)).map fun s =>
      ((staticsOk (importedModules pw.main.body) (boot_heap w.params) s.abs.heap && namesBound pw s.abs.heap && gensDone s.abs && laidKept (boot_heap w.params) s.abs.heap),
        openSeen q loose (importedModules pw.main.body) (fun _ => true) true s.abs, obsG Heap.nsMap s.abs) := by
  unfold runT finT
  rw [PySem.W.Fast.te10156331382660048174, PySem.W.Fast.te6613529449190102663, PySem.W.Fast.te11892475500146522536, PySem.W.Fast.te14364793385576792824, PySem.W.Fast.te4187177175401517315, PySem.W.Fast.te5923862056798008813, PySem.W.Fast.te8920871248978507458]
theorem opening_is : opening pw = plainProg pw.main.scope.names := by kernel_rfl
theorem fence_is (s : Shared) : fenceModules? pw s = some s := by kernel_rfl
theorem split_out {α β γ : Type} {x : Option SharedT} {f : SharedT → α} {g : SharedT → β} {h : SharedT → γ} {a : α} {b : β} {c : γ} (e : x.map (fun s => (f s, g s, h s)) = some (a, b, c)) : ∃ r, x = some r ∧ f r = a ∧ g r = b ∧ h r = c := by
  obtain ⟨r, hr, hb⟩ := Option.map_eq_some_iff.mp e
  simp only [Prod.mk.injEq] at hb
  exact ⟨r, hr, hb⟩
theorem left : LeftO pw q loose (fun _ => true) (obsG Heap.nsMap) Ya 9000 :=
  left_of (boot_open opening_is (by decide) fence_is) (fun w => by kernel_rfl) fun w os =>
    let ⟨r, hr, h⟩ := split_out ((runT_eq w os).symm.trans (congrFun (big w) os))
    ⟨r.abs, (S0_abs w.params os) ▸ topRunG_of hr, h⟩
theorem and2 {a b : Bool} (x : a = true) (y : b = true) : (a && b) = true := by rw [x, y]; rfl
open PySem.W in
section
theorem look_a : Fast.tw11788848310118352699 pw.main = true := by kernel_rfl
theorem look_b : Fast.tw8377067652309620493 pw = true := by kernel_rfl
theorem look_c : (R.allR (Fast.tw18344453789297297638 pw) fun n => !Fast.tw3471404346716756564 Fast.tw14412699480532031325 n) = true := by kernel_rfl
theorem look_d1 : (!R.allR (Fast.tw5923862056798008813 pw.main.body) (Fast.tw3471404346716756564 Fast.tw17691160309236699985)) = false := by kernel_rfl
theorem look_d2 : R.filterR (Fast.tw13343964577679436407 pw pw.main.body) [⟨⟨[118, 97, 114, 115]⟩⟩, ⟨⟨[100, 105, 114]⟩⟩, ⟨⟨[108, 111, 99, 97, 108, 115]⟩⟩] = [] := by kernel_rfl
theorem look_d3 : Fast.tw8326940854005059898 { strict := false, foot := none, bare := [] } pw.main.body = true := by kernel_rfl
theorem look_d : Fast.tw8326940854005059898 { strict := !R.allR (Fast.tw5923862056798008813 pw.main.body) (Fast.tw3471404346716756564 Fast.tw17691160309236699985), foot := none, bare := R.filterR (Fast.tw13343964577679436407 pw pw.main.body) [⟨⟨[118, 97, 114, 115]⟩⟩, ⟨⟨[100, 105, 114]⟩⟩, ⟨⟨[108, 111, 99, 97, 108, 115]⟩⟩] } pw.main.body = true := by
  rw [look_d1, look_d2]; exact look_d3
theorem look_e : (Fast.tw17119622794617984870 pw pw.main.body fun _ n => Fast.tw17868728402115742887 n) = true := by kernel_rfl
theorem look_ok : Fast.tw12908688711261696721 pw = true := by
  delta Fast.tw12908688711261696721
  refine and2 (and2 (and2 (and2 (and2 look_a ?_) look_b) look_c) look_d) look_e
  kernel_rfl
theorem row_ok : Fast.tw17960256430627541270 (Fast.tw2368527892694137696 PySem.Challenge.rw_ot0042_01) = true := by
  delta Fast.tw17960256430627541270 Fast.tw2436336058641802641
  with_reducible refine and2 (and2 (and2 (and2 (and2 (and2 (and2 (and2 (and2 (and2 (and2 (and2 (and2 (and2 (and2 ?_ ?_) ?_) ?_) ?_) ?_) ?_) ?_) ?_) ?_) ?_) ?_) ?_) ?_) ?_) ?_
  · exact look_ok
  all_goals kernel_rfl
theorem said : PySem.Challenge.rw_ot0042_01.wellSaid = true := by
  rw [Fast.te9446332074065402090]
  delta Fast.tw9446332074065402090
  with_reducible refine and2 (and2 (and2 (and2 (and2 (and2 (and2 (and2 (and2 (and2 (and2 (and2 (and2 (and2 (and2 (and2 (and2 (and2 ?_ ?_) ?_) ?_) ?_) ?_) ?_) ?_) ?_) ?_) ?_) ?_) ?_) ?_) ?_) ?_) ?_) ?_) ?_
  · exact row_ok
  all_goals kernel_rfl
end
structure Says (w : World) (h : Heap) : Prop where
  objs : (KO w.params).In h
  code : ∀ r ∈ fnRows, h.CodeRec (.ref r.code) (str r.qual)
  glob : ∀ g ∈ globRows, h.nsMap mainGlobals (str g.1) = some g.2
  gone : h.nsMap mainGlobals (str "Exception") = none
theorem Says.keeps (w : World) (h h' : Heap) (x : Says w h) (k : ∀ b o, h.get? b = some o → h'.get? b = some o) : Says w h' where
  objs := x.objs.keeps k
  code := fun r hr => (x.code r hr).keeps k
  glob := fun g hg => by
    have e := x.glob g hg
    unfold Heap.nsMap at e ⊢
    cases ho : h.get? mainGlobals with
    | none => rw [ho] at e; cases e
    | some o => rw [ho] at e; rw [k _ _ ho]; exact e
  gone := by
    have e1 := x.glob ("LendError", .ref 32) (.head _)
    have e := x.gone
    unfold Heap.nsMap at e e1 ⊢
    cases ho : h.get? mainGlobals with
    | none => rw [ho] at e1; cases e1
    | some o => rw [ho] at e; rw [k _ _ ho]; exact e
theorem none_of_nsMap {h : Heap} {m : Str → Option Value} {n : Str} (g : h.Ns mainGlobals m) (e : h.nsMap mainGlobals n = none) : m n = none := by
  obtain ⟨o, es, ep, ho, hd, _, hf⟩ := g
  unfold Heap.nsMap at e
  rw [ho] at e
  dsimp only at e
  rw [hd] at e
  exact (hf n).symm.trans e
theorem ns_of_nsMap {h : Heap} {m : Str → Option Value} {n : Str} {v : Value} (g : h.Ns mainGlobals m) (e : h.nsMap mainGlobals n = some v) : m n = some v := by
  obtain ⟨o, es, ep, ho, hd, _, hf⟩ := g
  unfold Heap.nsMap at e
  rw [ho] at e
  dsimp only at e
  rw [hd] at e
  exact (hf n).symm.trans e
theorem codeRec_of_name {h : Heap} {c : Addr} {n : Str} (e : codeName h c = some n) : h.CodeRec (.ref c) n := by
  unfold codeName at e
  split at e
  · rename_i o ho
    split at e
    · rename_i vs hd
      split at e
      · rename_i a n' t r hl
        cases e
        exact ⟨c, o, vs, t, rfl, ho, hd, by rw [← Array.getElem?_toList, hl]; rfl⟩
      · cases e
    · cases e
  · cases e
theorem map_eq_mem {α β : Type} {f g : α → β} : ∀ {l : List α}, l.map f = l.map g → ∀ a ∈ l, f a = g a
  | _ :: _, e, a, h => by
    rw [List.map_cons, List.map_cons, List.cons.injEq] at e
    rcases List.mem_cons.mp h with rfl | h
    · exact e.1
    · exact map_eq_mem e.2 a h
theorem objAddrs_is (P : Params) : objAddrs = (KO P).map (·.1) := by kernel_rfl
theorem says_of (w : World) (s : Shared) (e : obsG Heap.nsMap s = Ya w) : Says w s.heap := by
  unfold obsG Ya at e
  obtain ⟨e1, e2, e3⟩ : _ ∧ _ ∧ _ := by simpa only [Prod.mk.injEq] using e
  obtain ⟨e3, e4⟩ := List.append_inj e3 (by simp)
  exact ⟨Frag.in_of (objAddrs_is w.params) e1, fun r hr => codeRec_of_name (map_eq_mem e2 r hr), fun g hg => map_eq_mem e3 g hg, by simpa using e4⟩
noncomputable def lawRec : DefRec := match lawStmt with
  | .FunctionDef n args body _ _ _ sc _ _ pos => ⟨n, args, body, sc, pos⟩
  | _ => ⟨str "", ⟨[], [], none, [], [], none, []⟩, [], default, default⟩
theorem k_def : defOf q (str "law") = some (lawRec, []) := by kernel_rfl
theorem k_the : pw.theDef (str "law") = some (lawRec.params, lawRec.body, lawRec.scope) := by
  rw [PySem.W.Fast.te10235530238920679567]
  kernel_rfl
theorem k_kw : kwWritten? lawRec.params.kwonlyargs lawRec.params.kw_defaults = some [] := by kernel_rfl
theorem k_ok1 : chainsOk q = true := by kernel_rfl
theorem k_ok2 : opensWell pw = true := by kernel_rfl
theorem k_ok3 : (frees PySem.Challenge.rw_ot0042_01.row.toRowW && PySem.Challenge.rw_ot0042_01.row.toRowW.within.isEmpty) = true := by kernel_rfl
theorem k_bare : pw.bare := ⟨rfl, rfl, rfl, rfl, rfl, by kernel_rfl⟩
theorem k_prom : PySem.Challenge.rw_ot0042_01.row.toRowW.promised := ⟨[.list []], by kernel_rfl, by kernel_rfl⟩
theorem and3 {a b c : Bool} (x : a = true) (y : b = true) (z : c = true) : (a && b && c) = true := by rw [x, y, z]; rfl
theorem hd (call : WalkO q loose (fun _ _ => True) Says PySem.Challenge.rw_ot0042_01.row.toRowW lawRec [] fun f vs => PySem.call f vs) : PySem.Challenge.rw_ot0042_01.Holds :=
  holds_law said fun k1 => PySem.W.holds_open (q := q) (loose := loose) (Xt := fun _ => true) (XP := fun _ _ => True) (Yf := obsG Heap.nsMap) (Ya := Ya) (YP := Says) (N := 9000) (d := lawRec) (kwd := [])
    left says_of Says.keeps (fun _ _ => trivial) (fun _ _ _ _ _ => trivial) k_def k_the k_kw (fun _ _ => ⟨fun _ h => (nomatch h), fun _ h => (nomatch h), fun _ _ _ h => (nomatch h), fun _ _ h => (nomatch h)⟩) (by kernel_rfl)
    k1 (and3 k_ok1 k_ok2 k_ok3) k_bare k_prom call
end Mine

/-! # Text WP1 -/
open PySem PySem.W PyProof.Rows
set_option Elab.async false
set_option maxRecDepth 10000
set_option linter.unusedVariables false
namespace Mine

/-! # Abstract values and stores -/
inductive AV where
  | none
  | bool (b : Bool)
  | int (i : Int)
  | str (s : Str)
  | tup (vs : List AV)
  | loc (a : Addr)
  | val (v : Value)

mutual
noncomputable def VRel (h : Heap) (v : Value) : AV → Prop
  | .none => v = .none
  | .bool b => v = .bool b
  | .int i => ∃ t, v = .int i t
  | .str s => ∃ t, v = .str s t
  | .tup as => ∃ a o n vs, v = .ref a ∧ h.get? a = some o ∧ o.cls = .type "tuple" ∧ o.data = .seq (List.toArray vs) n ∧ VRels h vs as
  | .loc a => v = .ref a
  | .val u => v = u
noncomputable def VRels (h : Heap) (vs : List Value) : List AV → Prop
  | [] => vs = []
  | a :: as => ∃ x xs, vs = x :: xs ∧ VRel h x a ∧ VRels h xs as
end

inductive Cell where
  | list (vs : List AV)
  | inst (C d : Addr) (es : List (Str × AV))
  | own (x : Addr)
  | dict (es : List (Str × AV))
  | cell (v : Option AV)
  | rng (n : Int)
noncomputable abbrev Store := Addr → Option Cell
noncomputable def Store.set (σ : Store) (a : Addr) (c : Cell) : Store := fun b => if b = a then some c else σ b
theorem Store.set_same {σ : Store} {a : Addr} {c : Cell} : (σ.set a c) a = some c := if_pos rfl
theorem Store.set_ne {σ : Store} {a b : Addr} {c : Cell} (h : b ≠ a) : (σ.set a c) b = σ b := if_neg h

noncomputable def AttrsRel (h : Heap) (m : Str → Option Value) (as : List (Str × AV)) : Prop := ∀ x, match as.lookup x with
  | some a => ∃ v, m x = some v ∧ VRel h v a
  | none => m x = none
noncomputable def CellRel (P : World) (h : Heap) (a : Addr) : Cell → Prop
  | .list as => ∃ o n vs, h.get? a = some o ∧ o.cls = .type "list" ∧ o.dict = none ∧ o.data = .seq (List.toArray vs) n ∧ VRels h vs as
  | .inst C d as => ∃ m o, h.get? a = some o ∧ o.dict = some d ∧ o.data = .plain ∧ h.Inst a C m ∧ AttrsRel h m as
  | .own _ => ∃ o es n, h.get? a = some o ∧ o.data = .dict es n
  | .dict as => ∃ kvs, h.DictOf (strKind pw P) a kvs ∧ kvs.map (·.1) = as.map (·.1) ∧ VRels h (kvs.map (·.2)) (as.map (·.2)) ∧ (a == sysModules) = false
  | .cell v => ∃ o x, h.get? a = some o ∧ o.data = .cell x ∧ (match v, x with | some b, some y => VRel h y b | none, none => True | _, _ => False)
  | .rng n => ∃ t u v, IsRange h a 0 n 1 t u v

structure HeapOK (P : World) (H h : Heap) (σ : Store) : Prop where
  stays : ∀ b o, H.get? b = some o → h.get? b = some o
  cells : ∀ a c, σ a = some c → CellRel P h a c ∧ H.get? a = none
  own : ∀ a C d es, σ a = some (.inst C d es) → σ d = some (.own a)
noncomputable def Evo (h : Heap) (σ : Store) (h' : Heap) (σ' : Store) : Prop := ∀ a o, h.get? a = some o → σ a = none → h'.get? a = some o ∧ σ' a = none
theorem Evo.refl (h : Heap) (σ : Store) : Evo h σ h σ := fun _ _ e n => ⟨e, n⟩
theorem Evo.trans {h₁ h₂ h₃ : Heap} {σ₁ σ₂ σ₃ : Store} (x : Evo h₁ σ₁ h₂ σ₂) (y : Evo h₂ σ₂ h₃ σ₃) : Evo h₁ σ₁ h₃ σ₃ := fun a o e n => y a o (x a o e n).1 (x a o e n).2

noncomputable def Tup (o : Obj) : Prop := o.cls = .type "tuple" ∧ ∃ xs n, o.data = .seq xs n
mutual
theorem VRel.mono {h h' : Heap} (k : ∀ a o, h.get? a = some o → Tup o → h'.get? a = some o) : ∀ {v : Value} (a : AV), VRel h v a → VRel h' v a
  | _, .none, x => x
  | _, .bool _, x => x
  | _, .int _, x => x
  | _, .str _, x => x
  | _, .tup as, ⟨a, o, n, vs, e, g, c, d, r⟩ => ⟨a, o, n, vs, e, k a o g ⟨c, _, _, d⟩, c, d, VRels.mono k as r⟩
  | _, .loc _, x => x
  | _, .val _, x => x
theorem VRels.mono {h h' : Heap} (k : ∀ a o, h.get? a = some o → Tup o → h'.get? a = some o) : ∀ {vs : List Value} (as : List AV), VRels h vs as → VRels h' vs as
  | _, [], x => x
  | _, a :: as, ⟨x, xs, e, r, rs⟩ => ⟨x, xs, e, VRel.mono k a r, VRels.mono k as rs⟩
end
theorem VRels.length {h : Heap} : ∀ {vs : List Value} {as : List AV}, VRels h vs as → vs.length = as.length
  | _, [], x => by cases x; rfl
  | _, _ :: _, ⟨_, _, e, _, rs⟩ => by subst e; simp [rs.length]
theorem AttrsRel.mono {h h' : Heap} {m : Str → Option Value} (k : ∀ a o, h.get? a = some o → Tup o → h'.get? a = some o) {as : List (Str × AV)} (r : AttrsRel h m as) : AttrsRel h' m as := fun x => by
  have := r x
  split at this
  · rename_i a e; obtain ⟨v, e1, e2⟩ := this; exact ⟨v, e1, VRel.mono k a e2⟩
  · exact this
theorem type_ne {a b : String} (h : a ≠ b) : (Value.type a) ≠ .type b := fun e => h (Value.type.inj e)
theorem CellRel.notTuple {P : World} {h : Heap} {a : Addr} {c : Cell} (x : CellRel P h a c) {o : Obj} (e : h.get? a = some o) : ¬ Tup o := fun ⟨t1, t2⟩ => by
  cases c with
  | list as => obtain ⟨o', n, vs, g, cl, _⟩ := x; rw [e] at g; cases g; rw [cl] at t1; exact type_ne (by decide) t1
  | inst C d as => obtain ⟨m, o', g, _, _, ⟨o2, g2, cl, _⟩, _⟩ := x; rw [e] at g2; cases g2; rw [cl] at t1; cases t1
  | own _ => obtain ⟨o', es, n, g, d⟩ := x; rw [e] at g; cases g; obtain ⟨_, _, t2⟩ := t2; rw [d] at t2; cases t2
  | dict as => obtain ⟨kvs, hd, _⟩ := x; obtain ⟨o', g, hd⟩ := Heap.dictOf_iff.mp hd; rw [e] at g; cases g; obtain ⟨_, _, hx, _⟩ := hd; rw [hx.1] at t1; exact type_ne (by decide) t1
  | cell v => obtain ⟨o', x, g, d, _⟩ := x; rw [e] at g; cases g; obtain ⟨_, _, t2⟩ := t2; rw [d] at t2; cases t2
  | rng n => obtain ⟨t, u, v, g⟩ := x; have g' := e.symm.trans g; cases g'; exact type_ne (by decide) t1
/-! # What a step may have done -/
noncomputable def Loc := List (Str × AV)
noncomputable def Loc.get (ρ : List (Str × AV)) (x : Str) : Option AV := ρ.lookup x
theorem HeapOK.tuple {P : World} {H h : Heap} {σ : Store} (ok : HeapOK P H h σ) {a : Addr} {o : Obj} (e : h.get? a = some o) (c : Tup o) : σ a = none := by
  cases q : σ a with
  | none => rfl
  | some x => exact absurd c ((ok.cells a x q).1.notTuple e)
/-- `L`: the frame's own dict, if it may have been stored into -/
structure Good (w : World) (H : Heap) (L : Option Addr) (s : Shared) (σ : Store) (s' : Shared) (σ' : Store) : Prop where
  rest : s'.gens = s.gens ∧ s'.drawn = s.drawn ∧ s'.os = s.os
  ok : HeapOK w H s'.heap σ'
  evo : ∀ a o, s.heap.get? a = some o → σ a = none → L ≠ some a → s'.heap.get? a = some o
  old : ∀ a o, s.heap.get? a = some o → σ a = none → σ' a = none
theorem Good.refl {w : World} {H : Heap} {L : Option Addr} {s : Shared} {σ : Store} (ok : HeapOK w H s.heap σ) : Good w H L s σ s σ := ⟨⟨rfl, rfl, rfl⟩, ok, fun _ _ e _ _ => e, fun _ _ _ n => n⟩
theorem Good.trans {w : World} {H : Heap} {L : Option Addr} {s₁ s₂ s₃ : Shared} {σ₁ σ₂ σ₃ : Store} (x : Good w H L s₁ σ₁ s₂ σ₂) (y : Good w H L s₂ σ₂ s₃ σ₃) (k : ∀ a, L = some a → ∀ o, s₁.heap.get? a = some o → ∃ o', s₂.heap.get? a = some o') : Good w H L s₁ σ₁ s₃ σ₃ :=
  ⟨⟨y.rest.1.trans x.rest.1, y.rest.2.1.trans x.rest.2.1, y.rest.2.2.trans x.rest.2.2⟩, y.ok, fun a o e n l => y.evo a o (x.evo a o e n l) (x.old a o e n) l, fun a o e n => by
    by_cases l : L = some a
    · obtain ⟨o', e'⟩ := k a l o e
      exact y.old a o' e' (x.old a o e n)
    · exact y.old a o (x.evo a o e n l) (x.old a o e n)⟩
theorem Good.up {w : World} {H : Heap} {L : Option Addr} {s s' : Shared} {σ σ' : Store} (x : Good w H none s σ s' σ') : Good w H L s σ s' σ' := ⟨x.rest, x.ok, fun a o e n _ => x.evo a o e n (fun q => nomatch q), x.old⟩
theorem Good.vrel {w : World} {H : Heap} {L : Option Addr} {s s' : Shared} {σ σ' : Store} (g : Good w H L s σ s' σ') (ok : HeapOK w H s.heap σ) (hL : ∀ a, L = some a → ∃ o, s.heap.get? a = some o ∧ ¬ Tup o) {v : Value} {a : AV} (x : VRel s.heap v a) : VRel s'.heap v a :=
  x.mono (fun b o e c => g.evo b o e (ok.tuple e c) fun q => by obtain ⟨o', e', c'⟩ := hL b q; rw [e] at e'; cases e'; exact c' c) a

/-! # The frame at hand -/
structure Fc where
  w : World
  H : Heap
  mg : Str → Option Value
  mb : Str → Option Value
  n : Nat
  env : Env
  loc : List Str
  glo : List Str
structure NsRel (env : Env) (h : Heap) (ρ : List (Str × AV)) : Prop where
  is : ∃ m, h.Ns env.locals m ∧ ∀ x av, ρ.lookup x = some av → ∃ v, m x = some v ∧ VRel h v av
/-- what stands since the law's call began -/
structure Base (c : Fc) : Prop where
  says : Says c.w c.H
  g : c.H.Ns mainGlobals c.mg
  b : c.H.Ns builtinsNs c.mb
  bi : ∀ x : Str, x ≠ "__name__" → c.mb x = bootBuiltins x
  lim : c.H.NoLimit
  free : ∀ x ∈ (["len", "min", "max", "int", "range", "enumerate", "dict", "list", "tuple", "Exception"] : List Str), c.mg x = none
structure InFr (c : Fc) (ρ : List (Str × AV)) (P : List (Value × AV)) (A : Around) (outer : List Env) (s : Shared) (σ : Store) : Prop where
  base : Base c
  handled : A.handled = none
  depth : A.depth + 2 * c.n + 2 ≤ 1000
  units : A.units + 20 * c.n + 200 ≤ 9900
  frames : A.frames = some (c.env :: outer)
  kind : c.env.scope.kind = .function
  frame : c.env.frame = some c.env.locals
  globals : c.env.globals = mainGlobals
  builtins : c.env.builtins = builtinsNs
  stack : s.heap.FunFrames c.H (c.env :: outer)
  apart : ∀ e ∈ c.env :: outer, ∀ L, e.frame = some L → σ L = none
  ns : NsRel c.env s.heap ρ
  known : ∀ x av, ρ.lookup x = some av → c.env.kindOf x = some .local
  locs : ∀ x, c.loc.contains x = true → c.env.kindOf x = some .local
  glos : ∀ x, c.glo.contains x = true → c.env.kindOf x = some .globalImplicit
  ok : HeapOK c.w c.H s.heap σ
  pend : ∀ p ∈ P, VRel s.heap p.1 p.2
theorem funFrames_keep {H h h' : Heap} : ∀ {l : List Env}, h.FunFrames H l → (∀ e ∈ l, ∀ L, e.frame = some L → ∀ o, h.get? L = some o → ∃ o', h'.get? L = some o' ∧ ((∀ vs, o.data ≠ .fields vs) → ∀ vs, o'.data ≠ .fields vs)) → h'.FunFrames H l
  | [], _, _ => trivial
  | _ :: _, ⟨hk, ⟨L, o, hf, hn, ho, hd⟩, hr⟩, k =>
    let ⟨o', e', d'⟩ := k _ (.head _) L hf o ho
    ⟨hk, ⟨L, o', hf, hn, e', d' hd⟩, funFrames_keep hr fun e he => k e (.tail _ he)⟩
theorem ns_notTup {h : Heap} {L : Addr} {m : Str → Option Value} (n : h.Ns L m) : ∃ o, h.get? L = some o ∧ ¬ Tup o := let ⟨o, _, _, e, d, _⟩ := n; ⟨o, e, fun ⟨_, _, _, q⟩ => by rw [d] at q; cases q⟩
theorem InFr.frameObj {c : Fc} {ρ P A outer s σ} (F : InFr c ρ P A outer s σ) : ∃ o, s.heap.get? c.env.locals = some o ∧ ¬ Tup o := let ⟨_, n, _⟩ := F.ns.is; ns_notTup n
theorem InFr.sep {c : Fc} {ρ P A outer s σ} (F : InFr c ρ P A outer s σ) : σ c.env.locals = none := F.apart _ (.head _) _ F.frame
theorem InFr.step {c : Fc} {ρ P A outer s σ s' σ'} (F : InFr c ρ P A outer s σ) (G : Good c.w c.H none s σ s' σ') {P' : List (Value × AV)} (hp : ∀ p ∈ P', p ∈ P ∨ VRel s'.heap p.1 p.2) : InFr c ρ P' A outer s' σ' where
  base := F.base
  handled := F.handled
  depth := F.depth
  units := F.units
  frames := F.frames
  kind := F.kind
  frame := F.frame
  globals := F.globals
  builtins := F.builtins
  stack := funFrames_keep F.stack fun e he L hf o ho => ⟨o, G.evo L o ho (F.apart e he L hf) (fun q => nomatch q), id⟩
  apart := fun e he L hf => by
    have : ∃ o, s.heap.get? L = some o := by
      clear G hp
      have st := F.stack
      revert he
      generalize c.env :: outer = l at st
      intro he
      induction l with
      | nil => cases he
      | cons x r ih =>
        obtain ⟨_, ⟨L', o, hf', _, ho, _⟩, hr⟩ := st
        rcases List.mem_cons.mp he with rfl | he
        · rw [hf] at hf'; cases hf'; exact ⟨o, ho⟩
        · exact ih hr he
    obtain ⟨o, ho⟩ := this
    exact G.old L o ho (F.apart e he L hf)
  ns := by
    obtain ⟨m, hn, hr⟩ := F.ns.is
    refine ⟨m, ?_, fun x av e => ?_⟩
    · obtain ⟨o, es, ep, a1, a2, a3, a4⟩ := hn
      exact ⟨o, es, ep, G.evo _ o a1 F.sep (fun q => nomatch q), a2, a3, a4⟩
    · obtain ⟨v, e1, e2⟩ := hr x av e
      exact ⟨v, e1, G.vrel F.ok (fun _ q => nomatch q) e2⟩
  known := F.known
  locs := F.locs
  glos := F.glos
  ok := G.ok
  pend := fun p h => (hp p h).elim (fun q => G.vrel F.ok (fun _ q => nomatch q) (F.pend p q)) id

/-! # The exception on its way -/
inductive ExcAt (H h : Heap) (stack : List Env) (L : Option Addr) (a : Addr) : Prop where
  | new {oe : Obj} {vs : Array Value} {a0 : Value} (st : H.StaysIn h) (n : H.get? a = none) (fr : h.FunFrames H stack) (e : h.get? a = some oe) (c : oe.cls = .ref 57) (d : oe.data = .fields vs) (h0 : vs[0]? = some a0) (h1 : vs[1]? = some .none)
  | flying {a0 : Value} (x : Heap.FlyingW H stack a (.ref 57) a0 h)
  | held {a0 : Value} {b : Addr} (l : L = some b) (x : Heap.HeldW H stack a (.ref 57) a0 b h)
structure Bad (w : World) (H : Heap) (L : Option Addr) (s : Shared) (σ : Store) (s' : Shared) (σ' : Store) (x : Value) (stack : List Env) (at_ : Option Addr) : Prop where
  rest : s'.gens = s.gens ∧ s'.drawn = s.drawn ∧ s'.os = s.os
  exc : ∃ a, x = .ref a ∧ ExcAt H s'.heap stack at_ a
  lists : ∀ a as, σ' a = some (.list as) → CellRel w s'.heap a (.list as) ∧ H.get? a = none
  evo : ∀ a o, s.heap.get? a = some o → σ a = none → L ≠ some a → (∀ vs, o.data ≠ .fields vs) → ∃ sl, s'.heap.get? a = some { o with slots := sl }
  old : ∀ a o, s.heap.get? a = some o → σ a = none → σ' a = none
theorem Good.bad {w : World} {H : Heap} {L : Option Addr} {s₁ s₂ s₃ : Shared} {σ₁ σ₂ σ₃ : Store} {e : Value} {stack : List Env} {at_ : Option Addr} (x : Good w H L s₁ σ₁ s₂ σ₂) (y : Bad w H L s₂ σ₂ s₃ σ₃ e stack at_)
    (k : ∀ a, L = some a → ∀ o, s₁.heap.get? a = some o → ∃ o', s₂.heap.get? a = some o') : Bad w H L s₁ σ₁ s₃ σ₃ e stack at_ :=
  ⟨⟨y.rest.1.trans x.rest.1, y.rest.2.1.trans x.rest.2.1, y.rest.2.2.trans x.rest.2.2⟩, y.exc, y.lists, fun a o h n l f => y.evo a o (x.evo a o h n l) (x.old a o h n) l f, fun a o h n => by
    by_cases l : L = some a
    · obtain ⟨o', e'⟩ := k a l o h
      exact y.old a o' e' (x.old a o h n)
    · exact y.old a o (x.evo a o h n l) (x.old a o h n)⟩
theorem Bad.up {w : World} {H : Heap} {L : Option Addr} {s s' : Shared} {σ σ' : Store} {e : Value} {stack : List Env} {at_ : Option Addr} (x : Bad w H none s σ s' σ' e stack at_) : Bad w H L s σ s' σ' e stack at_ := ⟨x.rest, x.exc, x.lists, fun a o h n _ f => x.evo a o h n (fun q => nomatch q) f, x.old⟩

/-! # What a tree does -/
noncomputable abbrev ExcPost (c : Fc) (s : Shared) (σ : Store) (outer : List Env) (X : Store → Prop) : Value → Shared → Prop := fun x s' => ∃ σ', Bad c.w c.H none s σ s' σ' x (c.env :: outer) (some c.env.locals) ∧ X σ'
noncomputable def J (c : Fc) (ρ : List (Str × AV)) (P : List (Value × AV)) {α β : Type} (R : Heap → α → β → Prop) (t : Sem α) (σ : Store) (Q : β → Store → Prop) (X : Store → Prop) : Prop :=
  ∀ A outer s, InFr c ρ P A outer s σ → wpAny (model pw c.w) A t (fun a s' => ∃ b σ', Good c.w c.H none s σ s' σ' ∧ R s'.heap a b ∧ Q b σ') (ExcPost c s σ outer X) s
noncomputable abbrev RB {α : Type} : Heap → α → α → Prop := fun _ a b => a = b
section
variable {c : Fc} {ρ : List (Str × AV)} {P P' : List (Value × AV)} {α β γ δ : Type} {R : Heap → α → β → Prop} {t : Sem α} {σ : Store} {Q : β → Store → Prop} {X : Store → Prop}
theorem noneK {s₁ s₂ : Shared} : ∀ a, (none : Option Addr) = some a → ∀ o, s₁.heap.get? a = some o → ∃ o', s₂.heap.get? a = some o' := fun _ q => nomatch q
theorem J.mono {Q' : β → Store → Prop} {X' : Store → Prop} (h : J c ρ P R t σ Q X) (q : ∀ b σ, Q b σ → Q' b σ) (x : ∀ σ, X σ → X' σ) : J c ρ P R t σ Q' X' := fun A outer s F =>
  wpAny_mono (h A outer s F) (fun _ _ ⟨b, σ', g, r, k⟩ => ⟨b, σ', g, r, q b σ' k⟩) fun _ _ ⟨σ', b, k⟩ => ⟨σ', b, x σ' k⟩
theorem J.weaken (h : J c ρ P R t σ Q X) (k : ∀ p ∈ P, p ∈ P') : J c ρ P' R t σ Q X := fun A outer s F => h A outer s { F with pend := fun p q => F.pend p (k p q) }
theorem J.go {A : Around} {outer : List Env} {s : Shared} {Q' : α → Shared → Prop} {E' : Value → Shared → Prop} (h : J c ρ P R t σ Q X) (F : InFr c ρ P A outer s σ)
    (k : ∀ a b s₁ σ₁, Good c.w c.H none s σ s₁ σ₁ → R s₁.heap a b → Q b σ₁ → Q' a s₁) (x : ∀ e s₁, ExcPost c s σ outer X e s₁ → E' e s₁) : wpAny (model pw c.w) A t Q' E' s :=
  wpAny_mono (h A outer s F) (fun a s₁ ⟨b, σ₁, g, r, q⟩ => k a b s₁ σ₁ g r q) x
theorem ExcPost.up {s₁ s₂ : Shared} {σ₁ σ₂ : Store} {outer : List Env} (g : Good c.w c.H none s₁ σ₁ s₂ σ₂) : ∀ e s', ExcPost c s₂ σ₂ outer X e s' → ExcPost c s₁ σ₁ outer X e s' := fun _ _ ⟨σ', b, x⟩ => ⟨σ', g.bad b noneK, x⟩
theorem J.bind {R' : Heap → γ → δ → Prop} {f : α → Sem γ} {K : β → Store → Prop} {Q : δ → Store → Prop} (ht : J c ρ P R t σ K X) (N : α → β → List (Value × AV)) (hN : ∀ h a b, R h a b → ∀ p ∈ N a b, VRel h p.1 p.2)
    (hk : ∀ h a b σ', R h a b → K b σ' → J c ρ (N a b ++ P) R' (f a) σ' Q X) : J c ρ P R' (t >>= f) σ Q X := fun A outer s F =>
  wpAny_bind (ht.go F (fun a b s₁ σ₁ G r k => (hk _ a b σ₁ r k).go (F.step G fun p hp => (List.mem_append.mp hp).elim (fun q => .inr (hN _ a b r p q)) .inl)
      (fun _ d _ σ₂ G₂ r₂ q => ⟨d, σ₂, G.trans G₂ noneK, r₂, q⟩) (ExcPost.up G)) fun _ _ x => x)
theorem J.bindV {R' : Heap → γ → δ → Prop} {t : Sem Value} {f : Value → Sem γ} {K : AV → Store → Prop} {Q : δ → Store → Prop} (ht : J c ρ P VRel t σ K X)
    (hk : ∀ a b σ', K b σ' → J c ρ ((a, b) :: P) R' (f a) σ' Q X) : J c ρ P R' (t >>= f) σ Q X :=
  J.bind ht (fun a b => [(a, b)]) (fun _ a b r p hp => by cases List.mem_singleton.mp hp; exact r) fun _ a b σ' _ k => hk a b σ' k
theorem J.bindB {R' : Heap → γ → δ → Prop} {t : Sem α} {f : α → Sem γ} {K : α → Store → Prop} {Q : δ → Store → Prop} (ht : J c ρ P RB t σ K X)
    (hk : ∀ a σ', K a σ' → J c ρ P R' (f a) σ' Q X) : J c ρ P R' (t >>= f) σ Q X :=
  J.bind ht (fun _ _ => []) (fun _ _ _ _ _ hp => nomatch hp) fun _ a b σ' r k => by cases r; exact hk a σ' k
theorem J.pure {a : α} {b : β} (r : ∀ s : Shared, (∀ p ∈ P, VRel s.heap p.1 p.2) → HeapOK c.w c.H s.heap σ → R s.heap a b) (q : Q b σ) : J c ρ P R (Pure.pure a : Sem α) σ Q X := fun _ _ s F => wpAny_pure ⟨b, σ, .refl F.ok, r s F.pend F.ok, q⟩
theorem J.holding {vs : List Value} (h : J c ρ P R t σ Q X) : J c ρ P R (holding vs t) σ Q X := fun A outer s F => wpAny_holding (h A outer s F)
theorem J.operate {vs : List Value} {t : Sem Value} {Q : AV → Store → Prop} (h : J c ρ P VRel t σ Q X) : J c ρ P VRel (operate vs t) σ Q X := fun A outer s F => wpAny_operateT (h A outer s F)
theorem J.standAt {pos : Pos} {Q : Unit → Store → Prop} (q : Q () σ) : J c ρ P RB (standAt pos) σ Q X := fun _ _ _ F => wpAny_standAt ⟨(), σ, .refl F.ok, rfl, q⟩
/-- a tree that hands on a value and lets the heap be -/
theorem J.still {a' : β} {t : Sem α} (h : ∀ A outer s, InFr c ρ P A outer s σ → ∀ (Q' : α → Shared → Prop) (E' : Value → Shared → Prop), (∀ a tk, R s.heap a a' → Q' a { s with toks := tk }) → wpAny (model pw c.w) A t Q' E' s)
    (q : Q a' σ) : J c ρ P R t σ Q X := fun A outer s F => h A outer s F _ _ fun _ _ r => ⟨a', σ, ⟨⟨rfl, rfl, rfl⟩, F.ok, fun _ _ e _ _ => e, fun _ _ _ n => n⟩, r, q⟩
end

/-! # The heap grows -/
theorem CellRel.mono {P : World} {h h' : Heap} {a : Addr} (k : ∀ b o, h.get? b = some o → h'.get? b = some o) : ∀ {c : Cell}, CellRel P h a c → CellRel P h' a c
  | .list as, ⟨o, n, vs, e, cl, dn, d, r⟩ => ⟨o, n, vs, k _ _ e, cl, dn, d, VRels.mono (fun b o e _ => k b o e) as r⟩
  | .inst C d as, ⟨m, o, e, hd, dt, I, r⟩ => ⟨m, o, k _ _ e, hd, dt, I.keeps k, r.mono fun b o e _ => k b o e⟩
  | .own _, ⟨o, es, n, e, r⟩ => ⟨o, es, n, k _ _ e, r⟩
  | .dict _, ⟨kvs, hd, e1, r, z⟩ => ⟨kvs, hd.keep k, e1, VRels.mono (fun b o e _ => k b o e) _ r, z⟩
  | .cell v, ⟨o, x, e, d, r⟩ => ⟨o, x, k _ _ e, d, by
      cases v <;> cases x <;> first | exact r | exact VRel.mono (fun b o e _ => k b o e) _ r⟩
  | .rng _, ⟨t, u, v, g⟩ => ⟨t, u, v, k _ _ g⟩
theorem none_at_end {H h : Heap} (st : ∀ b o, H.get? b = some o → h.get? b = some o) : H.get? h.objs.size = none := by
  cases q : H.get? h.objs.size with
  | none => rfl
  | some o => exact absurd (Heap.lt_size (st _ o q)) (Nat.lt_irrefl _)
theorem CellRel.there {P : World} {h : Heap} {a : Addr} {cl : Cell} (this : CellRel P h a cl) : ∃ o, h.get? a = some o := by
  cases cl with
  | list as => obtain ⟨o, _, _, e, _⟩ := this; exact ⟨o, e⟩
  | inst C d as => obtain ⟨_, o, e, _⟩ := this; exact ⟨o, e⟩
  | own _ => obtain ⟨o, _, _, e, _⟩ := this; exact ⟨o, e⟩
  | dict as => obtain ⟨_, hd, _⟩ := this; obtain ⟨o, e, _⟩ := Heap.dictOf_iff.mp hd; exact ⟨o, e⟩
  | cell v => obtain ⟨o, _, e, _⟩ := this; exact ⟨o, e⟩
  | rng n => obtain ⟨t, u, v, g⟩ := this; exact ⟨_, g⟩
theorem HeapOK.fresh {P : World} {H h : Heap} {σ : Store} (ok : HeapOK P H h σ) : σ h.objs.size = none := by
  cases q : σ h.objs.size with
  | none => rfl
  | some cl =>
    obtain ⟨o, e⟩ := (ok.cells _ _ q).1.there
    exact absurd (Heap.lt_size e) (Nat.lt_irrefl _)
theorem HeapOK.keep {P : World} {H h h' : Heap} {σ : Store} (ok : HeapOK P H h σ) (k : ∀ b o, h.get? b = some o → h'.get? b = some o) : HeapOK P H h' σ :=
  ⟨fun b o e => k b o (ok.stays b o e), fun a c e => ⟨(ok.cells a c e).1.mono k, (ok.cells a c e).2⟩, ok.own⟩
theorem Good.keep {w : World} {H : Heap} {s s' : Shared} {σ : Store} (ok : HeapOK w H s.heap σ) (r : s'.gens = s.gens ∧ s'.drawn = s.drawn ∧ s'.os = s.os) (k : ∀ b o, s.heap.get? b = some o → s'.heap.get? b = some o) : Good w H none s σ s' σ :=
  ⟨r, ok.keep k, fun _ _ e _ _ => k _ _ e, fun _ _ _ n => n⟩
/-- a new cell on top -/
theorem Good.alloc {w : World} {H : Heap} {s s' : Shared} {σ : Store} {cl : Cell} (ok : HeapOK w H s.heap σ) (r : s'.gens = s.gens ∧ s'.drawn = s.drawn ∧ s'.os = s.os) (k : ∀ b o, s.heap.get? b = some o → s'.heap.get? b = some o)
    {a : Addr} (hn : s.heap.get? a = none) (hH : H.get? a = none) (hc : CellRel w s'.heap a cl) (hi : ∀ C d es, cl = .inst C d es → σ d = some (.own a)) : Good w H none s σ s' (σ.set a cl) := by
  have fr : ∀ b c, σ b = some c → b ≠ a := fun b c e q => by
    subst q
    obtain ⟨o, e'⟩ := (ok.cells _ _ e).1.there
    rw [hn] at e'; cases e'
  refine ⟨r, ⟨fun b o e => k b o (ok.stays b o e), fun b d e => ?_, fun b C d es e => ?_⟩, fun _ _ e _ _ => k _ _ e, fun b o e n => ?_⟩
  · by_cases q : b = a
    · subst q; rw [Store.set_same] at e; cases e; exact ⟨hc, hH⟩
    · rw [Store.set_ne q] at e; exact ⟨(ok.cells b d e).1.mono k, (ok.cells b d e).2⟩
  · have : σ d = some (.own b) := by
      by_cases q : b = a
      · subst q; rw [Store.set_same] at e; cases e; exact hi _ _ _ rfl
      · rw [Store.set_ne q] at e; exact ok.own _ _ _ _ e
    rw [Store.set_ne (fr _ _ this)]; exact this
  · rw [Store.set_ne fun q => by rw [q, hn] at e; cases e]; exact n
/-! # A part of the heap changes -/
theorem CellRel.but {P : World} {h h' : Heap} {a : Addr} {D : Addr → Prop} (k : ∀ b o, ¬ D b → h.get? b = some o → h'.get? b = some o) (hT : ∀ b o, D b → h.get? b = some o → ¬ Tup o) (ha : ¬ D a) : ∀ {c : Cell}, (∀ C d es, c = .inst C d es → ¬ D d) → CellRel P h a c → CellRel P h' a c
  | .list as, _, ⟨o, n, vs, e, cl, dn, d, r⟩ => ⟨o, n, vs, k _ _ ha e, cl, dn, d, VRels.mono (fun b o e t => k b o (fun q => hT b o q e t) e) as r⟩
  | .inst C d as, hd, ⟨m, o, e, hd', dt, I, r⟩ => ⟨m, o, k _ _ ha e, hd', dt, by
      obtain ⟨o', e', c', n', q⟩ := I
      refine ⟨o', k _ _ ha e', c', n', q.imp id fun ⟨d', x, y, z⟩ => ⟨d', x, y, ?_⟩⟩
      rw [e] at e'; cases e'; rw [hd'] at x; cases x
      exact z.at fun o => k _ o (hd _ _ _ rfl), r.mono (fun b o e t => k b o (fun q => hT b o q e t) e)⟩
  | .own _, _, ⟨o, es, n, e, r⟩ => ⟨o, es, n, k _ _ ha e, r⟩
  | .dict _, _, ⟨kvs, hd, e1, r, z⟩ => ⟨kvs, Heap.dictOf_iff.mpr (let ⟨o, e, x⟩ := Heap.dictOf_iff.mp hd; ⟨o, k _ _ ha e, x⟩), e1, VRels.mono (fun b o e t => k b o (fun q => hT b o q e t) e) _ r, z⟩
  | .cell v, _, ⟨o, x, e, d, r⟩ => ⟨o, x, k _ _ ha e, d, by
      cases v <;> cases x <;> first | exact r | exact VRel.mono (fun b o e t => k b o (fun q => hT b o q e t) e) _ r⟩
  | .rng _, _, ⟨t, u, v, g⟩ => ⟨t, u, v, k _ _ ha g⟩
theorem get_end (h : Heap) : h.get? h.objs.size = none := by
  cases q : h.get? h.objs.size with
  | none => rfl
  | some o => exact absurd (Heap.lt_size q) (Nat.lt_irrefl _)
end Mine

/-! # Text WP2 -/
open PySem PySem.W PyProof.Rows PySem.Calls
set_option Elab.async false
set_option maxRecDepth 10000
set_option linter.unusedVariables false
namespace Mine
/-! # Expressions -/
noncomputable def Ev (c : Fc) (ρ : List (Str × AV)) (P : List (Value × AV)) (e : Expr) (σ : Store) (Q : AV → Store → Prop) (X : Store → Prop) : Prop := J c ρ P VRel (eval e c.env) σ Q X
noncomputable def Tst (c : Fc) (ρ : List (Str × AV)) (P : List (Value × AV)) (e : Expr) (σ : Store) (Q : Bool → Store → Prop) (X : Store → Prop) : Prop := J c ρ P RB (isTrue e c.env (eval e c.env)) σ Q X
section
variable {c : Fc} {ρ : List (Str × AV)} {P : List (Value × AV)} {σ : Store} {Q : AV → Store → Prop} {X : Store → Prop}
theorem E_none {k : Nat} {pos : Pos} (q : Q .none σ) : Ev c ρ P (.Constant .none k pos) σ Q X := J.still (a' := AV.none) (fun _ _ _ _ _ _ h => wpAny_Constant_none (h _ _ rfl)) q
theorem E_bool {b : Bool} {k : Nat} {pos : Pos} (q : Q (.bool b) σ) : Ev c ρ P (.Constant (.bool b) k pos) σ Q X := J.still (a' := AV.bool b) (fun _ _ _ _ _ _ h => wpAny_Constant_bool (h _ _ rfl)) q
theorem E_int {i : Int} {k : Nat} {pos : Pos} (q : Q (.int i) σ) : Ev c ρ P (.Constant (.int i) k pos) σ Q X := J.still (a' := AV.int i) (fun _ _ _ _ _ _ h => wpAny_Constant_int (h _ _ ⟨_, rfl⟩)) q
theorem E_str {x : Str} {k : Nat} {pos : Pos} (q : Q (.str x) σ) : Ev c ρ P (.Constant (.str x) k pos) σ Q X := J.still (a' := AV.str x) (fun _ _ _ _ _ _ h => wpAny_Constant_str (h _ _ ⟨_, rfl⟩)) q
theorem E_loc {x : Str} {pos : Pos} {v : AV} (hv : ρ.lookup x = some v) (q : Q v σ) (hd : (x == ("__debug__" : Str)) = false := by decide) : Ev c ρ P (.Name x pos) σ Q X := fun A outer s F => by
  obtain ⟨m, hn, hr⟩ := F.ns.is
  obtain ⟨u, e, r⟩ := hr x v hv
  exact wpAny_Name (wpAny_loadName_local F.kind (F.known x v hv) hn e ⟨v, σ, .refl F.ok, r, q⟩) hd
theorem loadName_g {M : Model} {A : Around} {E : Value → Shared → Prop} {s : Shared} {env : Env} {x : Str} {Q : Value → Shared → Prop} (hk : env.scope.kind = .function) (hx : env.kindOf x = some .globalImplicit)
    (h : wpAny M A (loadGlobal env x) Q E s) : wpAny M A (loadName env x) Q E s := by
  unfold loadName
  simp only [Env.blockKind, hk, hx, ScopeKind.isAnnotationScope, Bool.false_and, Bool.false_eq_true, if_false]
  exact h
theorem VRel.up {H h : Heap} {v : Value} {a : AV} (x : VRel H v a) (k : ∀ b o, H.get? b = some o → h.get? b = some o) : VRel h v a := x.mono (fun b o e _ => k b o e) a
theorem E_glb {x : Str} {pos : Pos} {u : Value} {v : AV} (hk : c.glo.contains x = true) (hv : Base c → c.mg x = some u ∧ VRel c.H u v) (q : Q v σ) (hd : (x == ("__debug__" : Str)) = false := by decide) : Ev c ρ P (.Name x pos) σ Q X := fun A outer s F =>
  wpAny_Name (loadName_g F.kind (F.glos _ hk) (loadGlobal_global (by rw [F.globals]; exact F.base.g.keeps F.ok.stays) (hv F.base).1 ⟨v, σ, .refl F.ok, (hv F.base).2.up F.ok.stays, q⟩)) hd
theorem E_bi {x : Str} {pos : Pos} {u : Value} (hk : c.glo.contains x = true) (hf : x ∈ (["len", "min", "max", "int", "range", "enumerate", "dict", "list", "tuple", "Exception"] : List Str)) (hb : bootBuiltins x = some u) (q : Q (.val u) σ)
    (hn : x ≠ "__name__" := by decide) (hd : (x == ("__debug__" : Str)) = false := by decide) : Ev c ρ P (.Name x pos) σ Q X := fun A outer s F =>
  wpAny_Name (loadName_g F.kind (F.glos _ hk) (loadGlobal_builtin (by rw [F.globals]; exact F.base.g.keeps F.ok.stays) (F.base.free x hf) (by rw [F.builtins]; exact F.base.b.keeps F.ok.stays) ((F.base.bi x hn).trans hb) ⟨AV.val u, σ, .refl F.ok, rfl, q⟩)) hd

/-! ## Operators -/
noncomputable abbrev BinJ (c : Fc) (ρ : List (Str × AV)) (op : Operator) (a b : AV) (σ : Store) (Q : AV → Store → Prop) : Prop :=
  ∀ x y P, (x, a) ∈ P → (y, b) ∈ P → ∀ X, J c ρ P VRel (binaryOp op x y) σ Q X
theorem E_bin {l r : Expr} {op : Operator} {pos : Pos} (h : Ev c ρ P l σ (fun a σ₁ => Ev c ρ P r σ₁ (fun b σ₂ => BinJ c ρ op a b σ₂ Q) X) X) : Ev c ρ P (.BinOp l op r pos) σ Q X := by
  show J c ρ P VRel (eval (.BinOp l op r pos) c.env) σ Q X
  rw [eval_BinOp]
  refine J.bindV h fun x a σ₁ k => J.bindV (J.holding (k.weaken fun p hp => .tail _ hp)) fun y b σ₂ k₂ => J.bindB (J.standAt (Q := fun _ σ' => σ' = σ₂) rfl) fun _ σ' e => ?_
  subst e
  exact J.operate (k₂ _ _ _ (.tail _ (.head _)) (.head _) _)
theorem bin_addI {i j : Int} (q : Q (.int (i + j)) σ) : BinJ c ρ .Add (.int i) (.int j) σ Q := fun x y P hx hy X => J.still (a' := AV.int (i + j)) (fun A outer s F _ _ h => by
  obtain ⟨t, rfl⟩ := F.pend _ hx; obtain ⟨u, rfl⟩ := F.pend _ hy; exact add_int (h _ _ ⟨_, rfl⟩)) q
theorem bin_subI {i j : Int} (q : Q (.int (i - j)) σ) : BinJ c ρ .Sub (.int i) (.int j) σ Q := fun x y P hx hy X => J.still (a' := AV.int (i - j)) (fun A outer s F _ _ h => by
  obtain ⟨t, rfl⟩ := F.pend _ hx; obtain ⟨u, rfl⟩ := F.pend _ hy; exact sub_int (h _ _ ⟨_, rfl⟩)) q
theorem bin_mulI {i j : Int} (m : IntMulOk i j) (q : Q (.int (i * j)) σ) : BinJ c ρ .Mult (.int i) (.int j) σ Q := fun x y P hx hy X => J.still (a' := AV.int (i * j)) (fun A outer s F _ _ h => by
  obtain ⟨t, rfl⟩ := F.pend _ hx; obtain ⟨u, rfl⟩ := F.pend _ hy; exact mul_int (h _ _ ⟨_, rfl⟩) m) q
theorem bin_modI {i j : Int} (m : j ≠ 0) (q : Q (.int (i.fmod j)) σ) : BinJ c ρ .Mod (.int i) (.int j) σ Q := fun x y P hx hy X => J.still (a' := AV.int (i.fmod j)) (fun A outer s F _ _ h => by
  obtain ⟨t, rfl⟩ := F.pend _ hx; obtain ⟨u, rfl⟩ := F.pend _ hy; exact mod_int' m (h _ _ ⟨_, rfl⟩)) q
theorem bin_powI {i j : Int} (m : 0 ≤ j) (m2 : (Builtin.Int.intBits i : Int) * j ≤ 2 ^ 27) (q : Q (.int (i ^ j.toNat)) σ) : BinJ c ρ .Pow (.int i) (.int j) σ Q := fun x y P hx hy X => J.still (a' := AV.int (i ^ j.toNat)) (fun A outer s F _ _ h => by
  obtain ⟨t, rfl⟩ := F.pend _ hx; obtain ⟨u, rfl⟩ := F.pend _ hy; exact pow_int m m2 (h _ _ ⟨_, rfl⟩)) q
theorem bin_divI {i j : Int} (m : j ≠ 0) (m2 : Builtin.divisionGoesByPylong i j = false) (q : Q (.int (i.fdiv j)) σ) : BinJ c ρ .FloorDiv (.int i) (.int j) σ Q := fun x y P hx hy X => J.still (a' := AV.int (i.fdiv j)) (fun A outer s F _ _ h => by
  obtain ⟨t, rfl⟩ := F.pend _ hx; obtain ⟨u, rfl⟩ := F.pend _ hy; exact floordiv_int m (h _ _ ⟨_, rfl⟩) (.inl m2)) q
theorem bin_addS {i j : Str} (m : i.length + j.length ≤ sizeLine) (q : Q (.str (i ++ j)) σ) : BinJ c ρ .Add (.str i) (.str j) σ Q := fun x y P hx hy X => J.still (a' := AV.str (i ++ j)) (fun A outer s F _ _ h => by
  obtain ⟨t, rfl⟩ := F.pend _ hx; obtain ⟨u, rfl⟩ := F.pend _ hy; exact add_str (fun _ _ => h _ _ ⟨_, rfl⟩) m) q
theorem E_neg {i : Int} {e : Expr} {pos : Pos} (h : Ev c ρ P e σ (fun a σ₁ => a = .int i ∧ Q (.int (-i)) σ₁) X) : Ev c ρ P (.UnaryOp .USub e pos) σ Q X := by
  show J c ρ P VRel (eval (.UnaryOp .USub e pos) c.env) σ Q X
  rw [arm_eval_UnaryOp]
  refine J.bindV h fun x a σ₁ k => J.bindB (J.standAt (Q := fun _ σ' => σ' = σ₁) rfl) fun _ σ' e => ?_
  subst e
  obtain ⟨rfl, k⟩ := k
  exact J.holding (J.still (a' := AV.int (-i)) (fun A outer s F _ _ h => by obtain ⟨t, rfl⟩ := F.pend _ (.head _); exact neg_int (h _ _ ⟨_, rfl⟩)) k)

/-! ## Comparisons -/
noncomputable abbrev CmpJ (c : Fc) (ρ : List (Str × AV)) (op : CmpOp) (a b : AV) (σ : Store) (Q : Bool → Store → Prop) : Prop :=
  ∀ x y P, (x, a) ∈ P → (y, b) ∈ P → ∀ X, J c ρ P (fun _ v b => v = .bool b) (compareOp op x y) σ Q X
theorem E_cmp {l r : Expr} {op : CmpOp} {pos : Pos} (h : Ev c ρ P l σ (fun a σ₁ => Ev c ρ P r σ₁ (fun b σ₂ => CmpJ c ρ op a b σ₂ (fun b => Q (.bool b))) X) X) (hm : behindInMarks op r = false := by with_unfolding_all rfl) : Ev c ρ P (.Compare l [op] [r] pos) σ Q X := by
  show J c ρ P VRel (eval (.Compare l [op] [r] pos) c.env) σ Q X
  rw [eval_Compare1, markedBehindIn_of_false hm]
  refine J.bindV h fun x a σ₁ k => J.bindV (J.holding (k.weaken fun p hp => .tail _ hp)) fun y b σ₂ k₂ => J.bindB (J.standAt (Q := fun _ σ' => σ' = σ₂) rfl) fun _ σ' e => ?_
  subst e
  refine J.operate fun A outer s F => (k₂ _ _ _ (.tail _ (.head _)) (.head _) _).go F (fun v b s₁ σ₁ G r q => ⟨.bool b, σ₁, G, r, q⟩) fun _ _ x => x
theorem T_cmp {l r : Expr} {op : CmpOp} {pos : Pos} {Q : Bool → Store → Prop} (h : Ev c ρ P l σ (fun a σ₁ => Ev c ρ P r σ₁ (fun b σ₂ => CmpJ c ρ op a b σ₂ Q) X) X) (hm : behindInMarks op r = false := by with_unfolding_all rfl) : Tst c ρ P (.Compare l [op] [r] pos) σ Q X := by
  show J c ρ P RB (isTrue (.Compare l [op] [r] pos) c.env _) σ Q X
  rw [isTrue_Compare1, markedBehindIn_of_false hm]
  refine J.bindV h fun x a σ₁ k => J.bindV (J.holding (k.weaken fun p hp => .tail _ hp)) fun y b σ₂ k₂ => J.bindB (J.standAt (Q := fun _ σ' => σ' = σ₂) rfl) fun _ σ' e => ?_
  subst e
  refine J.bind (R := fun _ v b => v = .bool b) (fun A outer s F => wpAny_operateT (k₂ _ _ _ (.tail _ (.head _)) (.head _) _ A outer s F)) (fun _ _ => []) (fun _ _ _ _ _ hp => nomatch hp) fun _ v b σ' r q => ?_
  subst r
  exact J.holding fun A outer s F => wpAny_truthy_bool ⟨b, σ', .refl F.ok, rfl, q⟩
noncomputable def cmpI : CmpOp → Int → Int → Option Bool
  | .Lt, i, j => some (decide (i < j))
  | .LtE, i, j => some (decide (i ≤ j))
  | .Gt, i, j => some (decide (j < i))
  | .GtE, i, j => some (decide (j ≤ i))
  | .Eq, i, j => some (i == j)
  | .NotEq, i, j => some (i != j)
  | _, _, _ => none
theorem cmp_I {op : CmpOp} {i j : Int} {b : Bool} {Q : Bool → Store → Prop} (hop : cmpI op i j = some b) (q : Q b σ) : CmpJ c ρ op (.int i) (.int j) σ Q := fun x y P hx hy X =>
  J.still (a' := b) (fun A outer s F _ _ h => by
    obtain ⟨t, rfl⟩ := F.pend _ hx; obtain ⟨u, rfl⟩ := F.pend _ hy
    cases op with
    | Lt => cases hop; exact lt_int (h _ _ rfl)
    | LtE => cases hop; exact le_int (h _ _ rfl)
    | Gt => cases hop; exact gt_int (h _ _ rfl)
    | GtE => cases hop; exact ge_int (h _ _ rfl)
    | Eq => cases hop; exact eq_int (h _ _ rfl)
    | NotEq => cases hop; exact ne_int (h _ _ rfl)
    | _ => cases hop) q
theorem cmp_eqS {i j : Str} {Q : Bool → Store → Prop} (q : Q (i == j) σ) : CmpJ c ρ .Eq (.str i) (.str j) σ Q := fun x y P hx hy X => J.still (a' := i == j) (fun A outer s F _ _ h => by
  obtain ⟨t, rfl⟩ := F.pend _ hx; obtain ⟨u, rfl⟩ := F.pend _ hy; exact eq_str (h _ _ rfl)) q
theorem cmp_neS {i j : Str} {Q : Bool → Store → Prop} (q : Q (i != j) σ) : CmpJ c ρ .NotEq (.str i) (.str j) σ Q := fun x y P hx hy X => J.still (a' := i != j) (fun A outer s F _ _ h => by
  obtain ⟨t, rfl⟩ := F.pend _ hx; obtain ⟨u, rfl⟩ := F.pend _ hy; exact ne_str (h _ _ rfl)) q
theorem cmp_inS {i j : Str} {Q : Bool → Store → Prop} (q : Q (!(Builtin.Str.occurrences j i 0 j.length 1).isEmpty) σ) : CmpJ c ρ .In (.str i) (.str j) σ Q := fun x y P hx hy X => J.still (a' := !(Builtin.Str.occurrences j i 0 j.length 1).isEmpty) (fun A outer s F _ _ h => by
  obtain ⟨t, rfl⟩ := F.pend _ hx; obtain ⟨u, rfl⟩ := F.pend _ hy; exact in_str (h _ _ rfl)) q
noncomputable def AV.isNone : AV → Bool
  | .none => true
  | _ => false
theorem VRel.isNone {h : Heap} {v : Value} (a : AV) (x : VRel h v a) (hv : ∀ u, a ≠ .val u) : (v == .none) = a.isNone := by
  cases a with
  | none => cases x; rfl
  | bool b => cases x; rfl
  | int i => obtain ⟨t, rfl⟩ := x; rfl
  | str s => obtain ⟨t, rfl⟩ := x; rfl
  | tup as => obtain ⟨a, _, _, _, rfl, _⟩ := x; rfl
  | loc a => cases x; rfl
  | val u => exact absurd rfl (hv u)
theorem cmp_isNone {a : AV} {Q : Bool → Store → Prop} (hv : ∀ u, a ≠ .val u) (q : Q a.isNone σ) : CmpJ c ρ .Is a .none σ Q := fun x y P hx hy X => J.still (a' := a.isNone) (fun A outer s F _ _ h => by
  have e : y = .none := F.pend _ hy
  subst e
  exact is_none (h _ _ (congrArg Value.bool ((F.pend _ hx).isNone a hv)))) q
theorem cmp_isNotNone {a : AV} {Q : Bool → Store → Prop} (hv : ∀ u, a ≠ .val u) (q : Q (!a.isNone) σ) : CmpJ c ρ .IsNot a .none σ Q := fun x y P hx hy X => J.still (a' := !a.isNone) (fun A outer s F _ _ h => by
  have e : y = .none := F.pend _ hy
  subst e
  exact isNot_none (h _ _ (congrArg (fun z => Value.bool (!z)) ((F.pend _ hx).isNone a hv)))) q
/-- `in` a tuple, or a list, of texts -/
noncomputable def strIn (x : Str) (l : List Str) : Bool := l.any fun y => y == x
theorem vrels_strs {h : Heap} : ∀ {vs : List Value} {l : List Str}, VRels h vs (l.map .str) → ∀ y ∈ vs, ∃ z t, y = .str z t
  | _, [], e, y, hy => by cases e; cases hy
  | _, z :: l, ⟨_, _, e, ⟨t, r⟩, rs⟩, y, hy => by
    subst e
    rcases List.mem_cons.mp hy with rfl | hy
    · exact ⟨z, t, r⟩
    · exact vrels_strs rs y hy
noncomputable def strVal : Value → Str
  | .str z _ => z
  | _ => ⟨#[]⟩
theorem any_strs {h : Heap} {x : Str} : ∀ {vs : List Value} {l : List Str}, VRels h vs (l.map .str) → vs.any (fun y => strVal y == x) = strIn x l
  | _, [], e => by cases e; rfl
  | _, z :: l, ⟨_, _, e, ⟨t, r⟩, rs⟩ => by subst e r; simp only [List.any_cons, strIn]; rw [any_strs rs]; rfl
theorem cmp_inTS {i : Str} {l : List Str} {Q : Bool → Store → Prop} (q : Q (strIn i l) σ) : CmpJ c ρ .In (.str i) (.tup (l.map .str)) σ Q := fun x y P hx hy X => J.still (a' := strIn i l) (fun A outer s F _ _ h => by
  obtain ⟨t, rfl⟩ := F.pend _ hx
  obtain ⟨a, o, n, vs, rfl, g, cl, d, rs⟩ := F.pend _ hy
  refine SeqAt.in_tupleAt (items := vs.toArray) (fun y => strVal y == i) ⟨o, g, cl, n, d⟩ (fun y hy => ?_) ?_
  · obtain ⟨z, u, rfl⟩ := vrels_strs rs y (by simpa using hy)
    exact SeqAt.EqAt.str_str _ _ _ _
  · rw [List.any_toArray, any_strs rs]; exact h _ _ rfl) q
end
end Mine

/-! # Text WP3 -/
open PySem PySem.W PyProof.Rows PySem.Calls
set_option Elab.async false
set_option maxRecDepth 10000
set_option linter.unusedVariables false
namespace Mine
/-! ## Equality of data -/
mutual
noncomputable def AV.dat : AV → Option PyData
  | .none => some PyData.none
  | .bool b => some (.bool b)
  | .int i => some (.int i)
  | .str s => some (.str s)
  | .tup as => (AV.dats as).map .tuple
  | .loc _ => Option.none
  | .val _ => Option.none
noncomputable def AV.dats : List AV → Option (List PyData)
  | [] => some []
  | a :: as => match a.dat, AV.dats as with
    | some d, some ds => some (d :: ds)
    | _, _ => Option.none
end
mutual
theorem reads_of {h : Heap} : ∀ {v : Value} (a : AV) {d : PyData}, VRel h v a → a.dat = some d → Reads h v d []
  | _, .none, _, x, e => by cases x; cases e; exact .none
  | _, .bool b, _, x, e => by cases x; cases e; exact .bool b
  | _, .int i, _, ⟨t, x⟩, e => by subst x; cases e; exact .int i t
  | _, .str s, _, ⟨t, x⟩, e => by subst x; cases e; exact .str s t
  | _, .tup as, d, ⟨a, o, n, vs, x, g, c, dd, r⟩, e => by
    subst x
    simp only [AV.dat, Option.map_eq_some_iff] at e
    obtain ⟨ds, e, rfl⟩ := e
    exact .tuple g c dd (by simpa using readsAll_of as r e)
  | _, .loc _, _, _, e => by cases e
  | _, .val _, _, _, e => by cases e
theorem readsAll_of {h : Heap} : ∀ {vs : List Value} (as : List AV) {ds : List PyData}, VRels h vs as → AV.dats as = some ds → ReadsAll h vs ds []
  | _, [], _, x, e => by cases x; cases e; exact .nil
  | _, a :: as, ds, ⟨y, ys, x, r, rs⟩, e => by
    subst x
    unfold AV.dats at e
    split at e
    · rename_i d ds' e1 e2
      cases e
      exact .cons (reads_of a r e1) (readsAll_of as rs e2)
    · cases e
end
section
variable {c : Fc} {ρ : List (Str × AV)} {P : List (Value × AV)} {σ : Store} {X : Store → Prop}
theorem cmp_eqD {a b : AV} {da db : PyData} {Q : Bool → Store → Prop} (ea : a.dat = some da) (eb : b.dat = some db) (ha : da.canLay0 = true) (hb : db.canLay0 = true) (hu : min da.depth db.depth ≤ 100) (q : Q (PyData.eqv da db) σ) : CmpJ c ρ .Eq a b σ Q :=
  fun x y P hx hy X => J.still (a' := PyData.eqv da db) (fun A outer s F _ _ h =>
    SeqAt.compareEq_reads (reads_of a (F.pend _ hx) ea) (reads_of b (F.pend _ hy) eb) ha hb (by have := F.units; unfold cLine; (first | lia | omega)) (h _ _ rfl)) q
theorem cmp_neD {a b : AV} {da db : PyData} {Q : Bool → Store → Prop} (ea : a.dat = some da) (eb : b.dat = some db) (ha : da.canLay0 = true) (hb : db.canLay0 = true) (hu : min da.depth db.depth ≤ 100) (q : Q (!PyData.eqv da db) σ) : CmpJ c ρ .NotEq a b σ Q :=
  fun x y P hx hy X => J.still (a' := !PyData.eqv da db) (fun A outer s F _ _ h =>
    SeqAt.compareNe_reads (reads_of a (F.pend _ hx) ea) (reads_of b (F.pend _ hy) eb) ha hb (by have := F.units; unfold cLine; (first | lia | omega)) (h _ _ rfl)) q
theorem cell_at {a : Addr} {cl : Cell} {A : Around} {outer : List Env} {s : Shared} (F : InFr c ρ P A outer s σ) (e : σ a = some cl) : CellRel c.w s.heap a cl := (F.ok.cells a cl e).1
/-- a list of data, compared with a list of data -/
theorem cmp_eqL {a b : Addr} {as bs : List AV} {da db : List PyData} {Q : Bool → Store → Prop} (sa : σ a = some (.list as)) (sb : σ b = some (.list bs)) (ea : AV.dats as = some da) (eb : AV.dats bs = some db) (ha : PyData.canLayAll0 da = true) (hb : PyData.canLayAll0 db = true)
    (hu : min (PyData.depthAll da + 1) (PyData.depthAll db + 1) ≤ 100) (q : Q (PyData.eqvAll da db) σ) : CmpJ c ρ .Eq (.loc a) (.loc b) σ Q :=
  fun x y P hx hy X => J.still (a' := PyData.eqvAll da db) (fun A outer s F _ _ h => by
    obtain rfl : x = .ref a := F.pend _ hx
    obtain rfl : y = .ref b := F.pend _ hy
    obtain ⟨oa, na, va, ga, ca, _, xa, ra⟩ := cell_at F sa
    obtain ⟨ob, nb, vb, gb, cb, _, xb, rb⟩ := cell_at F sb
    have r1 : Reads s.heap (.ref a) (.list da) (a :: []) := .list ga ca xa (by simpa using readsAll_of as ra ea)
    have r2 : Reads s.heap (.ref b) (.list db) (b :: []) := .list gb cb xb (by simpa using readsAll_of bs rb eb)
    refine SeqAt.compareEq_reads r1 r2 (by simpa [PyData.canLay0] using ha) (by simpa [PyData.canLay0] using hb) (by have := F.units; simp only [PyData.depth]; unfold cLine; (first | lia | omega)) ?_
    have : PyData.eqv (.list da) (.list db) = PyData.eqvAll da db := by simp [PyData.eqv]
    rw [this]; exact h _ _ rfl) q
theorem cmp_inL {a : AV} {b : Addr} {bs : List AV} {da : PyData} {db : List PyData} {Q : Bool → Store → Prop} (sb : σ b = some (.list bs)) (ea : a.dat = some da) (eb : AV.dats bs = some db) (ha : da.canLay0 = true) (hb : PyData.canLayAll0 db = true)
    (hu : min (PyData.depthAll db) da.depth ≤ 100) (q : Q (db.any fun y => PyData.eqv y da) σ) : CmpJ c ρ .In a (.loc b) σ Q :=
  fun x y P hx hy X => J.still (a' := db.any fun y => PyData.eqv y da) (fun A outer s F _ _ h => by
    obtain rfl : y = .ref b := F.pend _ hy
    obtain ⟨ob, nb, vb, gb, cb, _, xb, rb⟩ := cell_at F sb
    have r2 : Reads s.heap (.ref b) (.list db) (b :: []) := .list gb cb xb (by simpa using readsAll_of bs rb eb)
    exact SeqAt.in_list_reads r2 (reads_of a (F.pend _ hx) ea) hb ha (by have := F.units; unfold cLine; (first | lia | omega)) (h _ _ rfl)) q

/-! ## Displays, tests -/
noncomputable abbrev RVs (n : Nat) : Heap → List Value → List AV → Prop := fun h vs as => VRels h vs as ∧ vs.length = n
noncomputable def Evs (c : Fc) (ρ : List (Str × AV)) (P : List (Value × AV)) (pos : Pos) (es : List Expr) (σ : Store) (Q : List AV → Store → Prop) (X : Store → Prop) : Prop := J c ρ P (RVs es.length) (spliced (backTo pos (starEach es c.env))) σ Q X
theorem Evs_nil {pos : Pos} {Q : List AV → Store → Prop} (q : Q [] σ) : Evs c ρ P pos [] σ Q X := fun A outer s F => args_nil ⟨[], σ, .refl F.ok, ⟨rfl, rfl⟩, q⟩
theorem Evs_cons {pos : Pos} {e : Expr} {es : List Expr} {Q : List AV → Store → Prop} (h : Ev c ρ P e σ (fun a σ₁ => Evs c ρ P pos es σ₁ (fun as σ₂ => Q (a :: as) σ₂) X) X)
    (he : starEach (e :: es) c.env = (false, eval e c.env) :: starEach es c.env := by rfl) : Evs c ρ P pos (e :: es) σ Q X := fun A outer s F =>
  args_cons (h.go F (fun v a s₁ σ₁ G r k => (k.weaken (P' := (v, a) :: P) fun p hp => .tail _ hp).go (F.step G fun p hp => by
      rcases List.mem_cons.mp hp with rfl | hp
      · exact .inr r
      · exact .inl hp) (fun vs as s₂ σ₂ G₂ rs q => ⟨a :: as, σ₂, G.trans G₂ noneK, ⟨⟨v, vs, rfl, G₂.vrel G.ok (fun _ q => nomatch q) r, rs.1⟩, by rw [List.length_cons, rs.2]; rfl⟩, q⟩) (ExcPost.up G)) fun _ _ x => x) he
theorem push_keep {h : Heap} {o : Obj} : ∀ b o', h.get? b = some o' → (h.push o).get? b = some o' := fun _ _ e => Heap.get?_push_of_some _ e
theorem E_tup {es : List Expr} {k : Nat} {pos : Pos} {Q : AV → Store → Prop} (h : Evs c ρ P pos es σ (fun as σ₁ => Q (.tup as) σ₁) X) (hz : es.length ≤ 1000 := by decide) : Ev c ρ P (.Tuple es k pos) σ Q X := fun A outer s F =>
  Tuple_ (h.go F (fun vs as s₁ σ₁ G rs q => by
    refine wpAny_newObj_type ⟨.tup as, σ₁, G.trans (.keep G.ok ⟨rfl, rfl, rfl⟩ push_keep) noneK, ⟨_, _, _, vs, rfl, Heap.get?_push_size _ rfl, rfl, rfl, rs.1.mono (fun b o e _ => push_keep b o e) as⟩, q⟩ ?_
    show vs.toArray.size ≤ sizeLine
    rw [List.size_toArray, rs.2, sizeLine_eq]; (first | lia | omega)) fun _ _ x => x)
theorem E_list {es : List Expr} {pos : Pos} {Q : AV → Store → Prop} (h : Evs c ρ P pos es σ (fun as σ₁ => ∀ a, σ₁ a = none → Q (.loc a) (σ₁.set a (.list as))) X) (hz : es.length ≤ 1000 := by decide) : Ev c ρ P (.List es pos) σ Q X := fun A outer s F =>
  List_ (h.go F (fun vs as s₁ σ₁ G rs q => by
    refine wpAny_newObj_type ⟨.loc s₁.heap.objs.size, σ₁.set s₁.heap.objs.size (.list as), G.trans (Good.alloc (s := s₁) (s' := { s₁ with heap := s₁.heap.push { cls := .type "list", data := .seq vs.toArray } }) (cl := .list as) G.ok ⟨rfl, rfl, rfl⟩ push_keep (get_end _) (none_at_end G.ok.stays) ⟨_, _, vs, Heap.get?_push_size _ rfl, rfl, rfl, rfl, rs.1.mono (fun b o e _ => push_keep b o e) as⟩ (fun _ _ _ q => nomatch q)) noneK, rfl, q _ G.ok.fresh⟩ ?_
    show vs.toArray.size ≤ sizeLine
    rw [List.size_toArray, rs.2, sizeLine_eq]; (first | lia | omega)) fun _ _ x => x)
theorem E_if {t b o : Expr} {pos : Pos} {Q : AV → Store → Prop} (h : Tst c ρ P t σ (fun k σ₁ => if k then Ev c ρ P b σ₁ Q X else Ev c ρ P o σ₁ Q X) X) : Ev c ρ P (.IfExp t b o pos) σ Q X := fun A outer s F =>
  wpAny_IfExp (h.go F (fun v k s₁ σ₁ G r q => by
    subst r
    cases v with
    | true => exact J.go q (F.step G fun p hp => .inl hp) (fun v a s₂ σ₂ G₂ r₂ q₂ => ⟨a, σ₂, G.trans G₂ noneK, r₂, q₂⟩) (ExcPost.up G)
    | false => exact J.go q (F.step G fun p hp => .inl hp) (fun v a s₂ σ₂ G₂ r₂ q₂ => ⟨a, σ₂, G.trans G₂ noneK, r₂, q₂⟩) (ExcPost.up G)) fun _ _ x => x)
theorem E_and {x y : Expr} {pos : Pos} {Q : AV → Store → Prop} (h : Ev c ρ P x σ (fun a σ₁ => (∃ b, a = .bool b ∧ if b then Ev c ρ P y σ₁ Q X else Q (.bool false) σ₁)) X) : Ev c ρ P (.BoolOp .And [x, y] pos) σ Q X := fun A outer s F =>
  wpAny_And2 (h.go F (fun v k s₁ σ₁ G r ⟨b, e, q⟩ => by
    subst e
    obtain rfl : v = .bool b := r
    refine wpAny_truthy_bool ?_
    cases b with
    | true => exact J.go q (F.step G fun p hp => .inl hp) (fun v a s₂ σ₂ G₂ r₂ q₂ => ⟨a, σ₂, G.trans G₂ noneK, r₂, q₂⟩) (ExcPost.up G)
    | false => exact ⟨.bool false, σ₁, G, rfl, q⟩) fun _ _ x => x)
theorem T_not {e : Expr} {pos : Pos} {Q : Bool → Store → Prop} (h : Tst c ρ P e σ (fun b σ₁ => Q (!b) σ₁) X) : Tst c ρ P (.UnaryOp .Not e pos) σ Q X := fun A outer s F =>
  wpAny_isTrue_Not (h.go F (fun v k s₁ σ₁ G r q => by subst r; exact ⟨_, σ₁, G, rfl, q⟩) fun _ _ x => x)
noncomputable def Alls (c : Fc) (ρ : List (Str × AV)) (P : List (Value × AV)) (op : BoolOp) (es : List Expr) (σ : Store) (Q : Bool → Store → Prop) (X : Store → Prop) : Prop := J c ρ P RB (allTrue op es c.env) σ Q X
theorem T_bool {op : BoolOp} {es : List Expr} {pos : Pos} {Q : Bool → Store → Prop} (h : Alls c ρ P op es σ Q X) : Tst c ρ P (.BoolOp op es pos) σ Q X := fun A outer s F => wpAny_isTrue_BoolOp (h A outer s F)
theorem All_and_nil {Q : Bool → Store → Prop} (q : Q true σ) : Alls c ρ P .And [] σ Q X := fun A outer s F => wpAny_allTrue_And_nil ⟨true, σ, .refl F.ok, rfl, q⟩
theorem All_or_nil {Q : Bool → Store → Prop} (q : Q false σ) : Alls c ρ P .Or [] σ Q X := fun A outer s F => wpAny_allTrue_Or_nil ⟨false, σ, .refl F.ok, rfl, q⟩
theorem All_and {e : Expr} {es : List Expr} {Q : Bool → Store → Prop} (h : Tst c ρ P e σ (fun b σ₁ => if b then Alls c ρ P .And es σ₁ Q X else Q false σ₁) X) : Alls c ρ P .And (e :: es) σ Q X := fun A outer s F =>
  wpAny_allTrue_And_cons (h.go F (fun v k s₁ σ₁ G r q => by
    subst r
    cases v with
    | true => exact J.go q (F.step G fun p hp => .inl hp) (fun v a s₂ σ₂ G₂ r₂ q₂ => ⟨a, σ₂, G.trans G₂ noneK, r₂, q₂⟩) (ExcPost.up G)
    | false => exact ⟨false, σ₁, G, rfl, q⟩) fun _ _ x => x)
theorem All_or {e : Expr} {es : List Expr} {Q : Bool → Store → Prop} (h : Tst c ρ P e σ (fun b σ₁ => if b then Q true σ₁ else Alls c ρ P .Or es σ₁ Q X) X) : Alls c ρ P .Or (e :: es) σ Q X := fun A outer s F =>
  wpAny_allTrue_Or_cons (h.go F (fun v k s₁ σ₁ G r q => by
    subst r
    cases v with
    | false => exact J.go q (F.step G fun p hp => .inl hp) (fun v a s₂ σ₂ G₂ r₂ q₂ => ⟨a, σ₂, G.trans G₂ noneK, r₂, q₂⟩) (ExcPost.up G)
    | true => exact ⟨true, σ₁, G, rfl, q⟩) fun _ _ x => x)
/-- a name or a call as a test, its value a bool -/
theorem T_val {e : Expr} {Q : Bool → Store → Prop} (h : Ev c ρ P e σ (fun a σ₁ => ∃ b, a = .bool b ∧ Q b σ₁) X) (he : isTrue e c.env (eval e c.env) = (do let v ← eval e c.env; standAt e.pos; holding [v] (truthy v)) := by rfl) : Tst c ρ P e σ Q X := fun A outer s F =>
  wpAny_isTrue_value (h.go F (fun v k s₁ σ₁ G r ⟨b, e, q⟩ => by
    subst e
    obtain rfl : v = .bool b := r
    exact wpAny_truthy_bool ⟨b, σ₁, G, rfl, q⟩) fun _ _ x => x) he
end
end Mine

/-! # Text WP4 -/
open PySem PySem.W PyProof.Rows PySem.Calls
set_option Elab.async false
set_option maxRecDepth 10000
set_option linter.unusedVariables false
namespace Mine
section
variable {c : Fc} {ρ : List (Str × AV)} {P : List (Value × AV)} {σ : Store} {X : Store → Prop}
/-! ## Items -/
noncomputable def Plain (slice : Expr) : Prop := ∀ o i, ∃ ops, subscripted slice false o i = operate ops (getItem o i)
noncomputable abbrev SubJ (c : Fc) (ρ : List (Str × AV)) (slice : Expr) (a b : AV) (σ : Store) (Q : AV → Store → Prop) : Prop :=
  ∀ x y P value, (x, a) ∈ P → (y, b) ∈ P → ∀ X, J c ρ P VRel (subscriptTail value slice x y) σ Q X
theorem E_sub {value slice : Expr} {pos : Pos} {Q : AV → Store → Prop} (h : Ev c ρ P value σ (fun a σ₁ => Ev c ρ P slice σ₁ (fun b σ₂ => SubJ c ρ slice a b σ₂ Q) X) X) : Ev c ρ P (.Subscript value slice pos) σ Q X := fun A outer s F =>
  Subscript_ (h.go F (fun v a s₁ σ₁ G r k => (k.weaken (P' := (v, a) :: P) fun p hp => .tail _ hp).go (F.step G fun p hp => by
      rcases List.mem_cons.mp hp with rfl | hp
      · exact .inr r
      · exact .inl hp) (fun u b s₂ σ₂ G₂ r₂ k₂ => (k₂ v u ((u, b) :: (v, a) :: P) value (.tail _ (.head _)) (.head _) X).go ((F.step G (P' := (v, a) :: P) fun p hp => by
        rcases List.mem_cons.mp hp with rfl | hp
        · exact .inr r
        · exact .inl hp).step G₂ fun p hp => by
          rcases List.mem_cons.mp hp with rfl | hp
          · exact .inr r₂
          · exact .inl hp) (fun z d s₃ σ₃ G₃ r₃ q => ⟨d, σ₃, (G.trans G₂ noneK).trans G₃ noneK, r₃, q⟩) (ExcPost.up (G.trans G₂ noneK))) (ExcPost.up G)) fun _ _ x => x)
theorem VRels.get {h : Heap} : ∀ {vs : List Value} {as : List AV} {j : Nat} {a : AV}, VRels h vs as → as[j]? = some a → ∃ v, vs[j]? = some v ∧ VRel h v a
  | _, b :: as, 0, a, ⟨x, xs, e, r, rs⟩, q => by subst e; cases q; exact ⟨x, rfl, r⟩
  | _, b :: as, j + 1, a, ⟨x, xs, e, r, rs⟩, q => by subst e; simpa using rs.get (by simpa using q)
  | _, [], _, _, _, q => by simp at q
theorem sub_tup {slice : Expr} {as : List AV} {k : Int} {j : Nat} {a : AV} {Q : AV → Store → Prop} (hs : Plain slice) (hlo : -(2 ^ 63) ≤ k) (hhi : k < 2 ^ 63) (hj : seqIndex? k as.length = some j) (ha : as[j]? = some a) (q : Q a σ) : SubJ c ρ slice (.tup as) (.int k) σ Q := fun x y P value hx hy X =>
  J.still (a' := a) (fun A outer s F _ _ h => by
    obtain ⟨l, o, n, vs, rfl, g, cl, d, rs⟩ := F.pend _ hx
    obtain ⟨u, rfl⟩ := F.pend _ hy
    obtain ⟨v, e, r⟩ := rs.get ha
    obtain ⟨ops, hs⟩ := hs (.ref l) (.int k u)
    have T : IsTup s.heap l vs.toArray := ⟨o, g, cl, n, d⟩
    exact tail_any T.typeIs slot_tuple_getitem.lookup (getItem_tuple T hlo hhi (by rw [List.size_toArray, rs.length]; exact hj) (by simpa using e) (h v _ r)) hs) q
theorem sub_list {slice : Expr} {a : Addr} {as : List AV} {k : Int} {b : AV} {Q : AV → Store → Prop} (hs : Plain slice) (sa : σ a = some (.list as)) (h0 : 0 ≤ k) (hhi : k < 2 ^ 63) (ha : as[k.toNat]? = some b) (q : Q b σ) : SubJ c ρ slice (.loc a) (.int k) σ Q := fun x y P value hx hy X =>
  J.still (a' := b) (fun A outer s F _ _ h => by
    obtain rfl : x = .ref a := F.pend _ hx
    obtain ⟨u, rfl⟩ := F.pend _ hy
    obtain ⟨o, n, vs, g, cl, _, d, rs⟩ := cell_at F sa
    obtain ⟨v, e, r⟩ := rs.get ha
    obtain ⟨ops, hs⟩ := hs (.ref a) (.int k u)
    have T : s.heap.IsList a vs.toArray := ⟨o, g, cl, n, d⟩
    exact tail_any T.typeIs slot_list_getitem.lookup (wpAny_getItem_list T h0 hhi (by simpa using e) (h v _ r)) hs) q
theorem sub_listN {slice : Expr} {a : Addr} {as : List AV} {k : Int} {b : AV} {Q : AV → Store → Prop} (hs : Plain slice) (sa : σ a = some (.list as)) (h0 : k < 0) (h1 : -(as.length : Int) ≤ k) (hlo : -(2 ^ 63) ≤ k) (ha : as[(k + as.length).toNat]? = some b) (q : Q b σ) : SubJ c ρ slice (.loc a) (.int k) σ Q := fun x y P value hx hy X =>
  J.still (a' := b) (fun A outer s F _ _ h => by
    obtain rfl : x = .ref a := F.pend _ hx
    obtain ⟨u, rfl⟩ := F.pend _ hy
    obtain ⟨o, n, vs, g, cl, _, d, rs⟩ := cell_at F sa
    obtain ⟨v, e, r⟩ := rs.get ha
    obtain ⟨ops, hs⟩ := hs (.ref a) (.int k u)
    have T : s.heap.IsList a vs.toArray := ⟨o, g, cl, n, d⟩
    exact tail_any T.typeIs slot_list_getitem.lookup (wpAny_getItem_list_neg T h0 (by rw [List.size_toArray, rs.length]; exact h1) hlo (by rw [List.size_toArray, rs.length]; simpa using e) (h v _ r)) hs) q
theorem sub_str {slice : Expr} {x : Str} {k : Int} {Q : AV → Store → Prop} (hs : Plain slice) (hr : fitsSsize k = true) (h1 : -(x.length : Int) ≤ k) (h2 : k < x.length) (q : Q (.str (Txt.item x k)) σ) : SubJ c ρ slice (.str x) (.int k) σ Q := fun v y P value hx hy X =>
  J.still (a' := .str (Txt.item x k)) (fun A outer s F _ _ h => by
    obtain ⟨t, rfl⟩ := F.pend _ hx
    obtain ⟨u, rfl⟩ := F.pend _ hy
    obtain ⟨ops, hs⟩ := hs (.str x t) (.int k u)
    obtain ⟨T, id, hl, hT, hg⟩ := SB.item (prog := pw) (w := c.w) (A := A) (t := t) (u := u) hr (charAt_isSome h1 h2) (h (.str (Txt.item x k) s.toks) _ ⟨_, rfl⟩)
    exact tail_any hT hl hg hs) q
end
/-! ## The class Words -/
theorem isNs_of_in' {K : Frag} {h : Heap} {N : Addr} {cl : Value} {d : Option Addr} {es : Array DictEntry} {n : Nat} {sl : Array (Option Value)} (X : K.In h) (e : K.lookup N = some ⟨cl, d, .dict es n, sl⟩)
    (k : es.all (fun e => match e.key with | .str _ _ => true | _ => false) = true) : h.isNs N = true := by
  unfold Heap.isNs
  rw [X _ _ e]
  exact k
theorem nsMap_of_in {K : Frag} {h : Heap} {N : Addr} {cl : Value} {d : Option Addr} {es : Array DictEntry} {n : Nat} {sl : Array (Option Value)} (X : K.In h) (e : K.lookup N = some ⟨cl, d, .dict es n, sl⟩) (x : Str) : h.nsMap N x = nsFind es x := by
  unfold Heap.nsMap
  rw [X _ _ e]
noncomputable def wordsObj (P : Params) : Obj := ((KO P).lookup 193).getD default
noncomputable def wordsNs (P : Params) : Array DictEntry := match (KO P).lookup 192 with
  | some ⟨_, _, .dict es _, _⟩ => es
  | _ => #[]
noncomputable def wordsCls (s0 s1 : Value) : Obj := excClassObj (str "Words") (str "Words") 193 192 [.type "object"] [.type "object"] true [] [] false none none none none (some s0) (some s1) (some (.bool true)) "object.__new__"
theorem words_is (P : Params) : (KO P).lookup 193 = some (wordsCls (.str (str "Words") 454) (.str (str "Words") 462)) := by kernel_rfl
theorem wordsNs_is (P : Params) : (KO P).lookup 192 = some ⟨.type "dict", none, .dict (wordsNs P) 4, #[]⟩ := by kernel_rfl
theorem wordsNs_keys (P : Params) : (wordsNs P).all (fun e => match e.key with | .str _ _ => true | _ => false) = true := by kernel_rfl
theorem words_no_ga (P : Params) : nsFind (wordsNs P) "__getattribute__" = none := by kernel_rfl
theorem words_no_h (P : Params) : nsFind (wordsNs P) "__getattr__" = none := by kernel_rfl
theorem words_no_sa (P : Params) : nsFind (wordsNs P) "__setattr__" = none := by kernel_rfl
theorem words_no_rows (P : Params) : nsFind (wordsNs P) "rows" = none := by kernel_rfl
theorem words_no_at (P : Params) : nsFind (wordsNs P) "at" = none := by kernel_rfl
theorem object_no_rows : typeLookup (.type "object") "rows" = pure none := by rw [typeLookup_type, builtinLookup_eq_fast]; kernel_rfl
theorem object_no_at : typeLookup (.type "object") "at" = pure none := by rw [typeLookup_type, builtinLookup_eq_fast]; kernel_rfl
/-- an attribute of a Words object: no method's name -/
structure OwnAttr (P : Params) (x : Str) : Prop where
  cls : nsFind (wordsNs P) x = none
  obj : typeLookup (.type "object") x = pure none
theorem own_rows (P : Params) : OwnAttr P "rows" := ⟨words_no_rows P, object_no_rows⟩
theorem own_at (P : Params) : OwnAttr P "at" := ⟨words_no_at P, object_no_at⟩
noncomputable def AV.plain : AV → Bool
  | .val _ => false
  | _ => true
theorem VRel.handed {h : Heap} {v : Value} (a : AV) (x : VRel h v a) (p : a.plain = true) : handedOut v = pure v := by
  cases a with
  | none => cases x; rfl
  | bool b => cases x; rfl
  | int i => obtain ⟨t, rfl⟩ := x; rfl
  | str s => obtain ⟨t, rfl⟩ := x; rfl
  | tup as => obtain ⟨a, _, _, _, rfl, _⟩ := x; rfl
  | loc a => cases x; rfl
  | val u => cases p
section
variable {c : Fc} {ρ : List (Str × AV)} {P : List (Value × AV)} {σ : Store} {X : Store → Prop}
theorem InFr.K {A : Around} {outer : List Env} {s : Shared} (F : InFr c ρ P A outer s σ) : (KO c.w.params).In s.heap := F.base.says.objs.keeps F.ok.stays
theorem K_ns {h : Heap} {w : Params} (X : (KO w).In h) : h.Ns 192 (h.nsMap 192) := .of_isNs (isNs_of_in' X (wordsNs_is _) (wordsNs_keys _))
/-! ## Attributes -/
noncomputable abbrev GetJ (c : Fc) (ρ : List (Str × AV)) (a : AV) (attr : Str) (σ : Store) (Q : AV → Store → Prop) : Prop := ∀ x P, (x, a) ∈ P → ∀ X, J c ρ P VRel (getAttr x attr true) σ Q X
theorem get_words {x d : Addr} {es : List (Str × AV)} {attr : Str} {v : AV} {Q : AV → Store → Prop} (hO : OwnAttr c.w.params attr) (sx : σ x = some (.inst 193 d es)) (hl : es.lookup attr = some v) (p : v.plain = true) (q : Q v σ) : GetJ c ρ (.loc x) attr σ Q := fun y P hy X =>
  J.still (a' := v) (fun A outer s F _ _ h => by
    obtain rfl : y = .ref x := F.pend _ hy
    obtain ⟨m, o, _, _, _, I, R⟩ := cell_at F sx
    have r := R attr
    rw [hl] at r
    obtain ⟨u, e, r⟩ := r
    have K := F.K
    refine load_attr (h := s.heap) (K _ _ (words_is _)) (K_ns K) ((nsMap_of_in K (wordsNs_is _) _).trans (words_no_ga _)) ((nsMap_of_in K (wordsNs_is _) _).trans hO.cls) hO.obj I e (r.handed v p) (h u _ r)) q
theorem E_attr {o : Expr} {attr : Str} {pos : Pos} {Q : AV → Store → Prop} (h : Ev c ρ P o σ (fun a σ₁ => GetJ c ρ a attr σ₁ Q) X)
    (he : eval (.Attribute o attr pos) c.env = (do let o' ← eval o c.env; standAt pos.atName; let r ← holding [o'] (getAttr o' attr true); letTemporaryGo o o' r; pure r) := by rfl) : Ev c ρ P (.Attribute o attr pos) σ Q X := fun A outer s F =>
  Attribute_any_ (h.go F (fun v a s₁ σ₁ G r k => (k v ((v, a) :: P) (.head _) X).go (F.step G fun p hp => by
      rcases List.mem_cons.mp hp with rfl | hp
      · exact .inr r
      · exact .inl hp) (fun z d s₂ σ₂ G₂ r₂ q => ⟨d, σ₂, G.trans G₂ noneK, r₂, q⟩) (ExcPost.up G)) fun _ _ x => x) he
end
end Mine

/-! # Text WP5 -/
open PySem PySem.W PyProof.Rows PySem.Calls
set_option Elab.async false
set_option maxRecDepth 10000
set_option linter.unusedVariables false
namespace Mine
/-! # Calls -/
noncomputable def rowOf (a : Addr) : FnRow := match fnRows.find? (fun r => Nat.beq r.addr a) with
  | some r => r
  | none => ⟨0, "", "", "", .none, "", 0, 0⟩
/-- a def of the text stands at its address -/
structure FnAt (a : Addr) : Prop where
  obj : ∀ P, (KO P).lookup a = some (rowOf a).obj
  keep : ∀ P, keepIn (KO P) (.ref a) = true
  mem : rowOf a ∈ fnRows
structure MethAt (name : Str) (f : Addr) : Prop where
  fn : FnAt f
  cls : ∀ P, nsFind (wordsNs P) name = some (.ref f)
theorem mem_find {α : Type} {p : α → Bool} {l : List α} {a : α} (h : l.find? p = some a) : a ∈ l := List.mem_of_find?_eq_some h
theorem fn_peek : FnAt 154 := ⟨fun _ => by kernel_rfl, fun _ => by kernel_rfl, mem_find (p := fun r => Nat.beq r.addr 154) (by kernel_rfl)⟩
theorem m_peek : MethAt "peek" 154 := ⟨fn_peek, fun _ => by kernel_rfl⟩
noncomputable def CallJ (c : Fc) (ρ : List (Str × AV)) (f : Value) (as : List AV) (σ : Store) (Q : AV → Store → Prop) (X : Store → Prop) : Prop :=
  ∀ A outer s vals, InFr c ρ [] A outer s σ → VRels s.heap vals as → wpAny (model pw c.w) A (call f vals) (fun v s' => ∃ b σ', Good c.w c.H none s σ s' σ' ∧ VRel s'.heap v b ∧ Q b σ') (ExcPost c s σ outer X) s
section
variable {c : Fc} {ρ : List (Str × AV)} {P : List (Value × AV)} {σ : Store} {X : Store → Prop}
theorem InFr.bare {A : Around} {outer : List Env} {s : Shared} (F : InFr c ρ P A outer s σ) : InFr c ρ [] A outer s σ := { F with pend := fun p hp => nomatch hp }
end
noncomputable def notStar : Expr → Bool
  | .Starred .. => false
  | _ => true
theorem starEach_cons' {e : Expr} {es : List Expr} {env : Env} (h : notStar e = true) : starEach (e :: es) env = (false, eval e env) :: starEach es env := by
  cases e <;> first | rfl | cases h
theorem star_any {env : Env} {pos : Pos} : ∀ {es : List Expr}, es.all notStar = true → (backTo pos (starEach es env)).any (·.1) = false
  | [], _ => rfl
  | e :: es, h => by
    rw [List.all_cons, Bool.and_eq_true] at h
    rw [starEach_cons' h.1]
    show (false || (backTo pos (starEach es env)).any (·.1)) = false
    rw [star_any h.2]; rfl
section
variable {c : Fc} {ρ : List (Str × AV)} {P : List (Value × AV)} {σ : Store} {X : Store → Prop}
theorem VRels.append {h : Heap} : ∀ {vs : List Value} {as : List AV} {ws : List Value} {bs : List AV}, VRels h vs as → VRels h ws bs → VRels h (vs ++ ws) (as ++ bs)
  | _, [], _, _, e, r => by cases e; exact r
  | _, a :: as, _, _, ⟨x, xs, e, r, rs⟩, r' => by subst e; exact ⟨x, _, rfl, r, rs.append r'⟩
theorem callWith_args {f : Value} {first : List Value} {pre : List AV} {pos : Pos} {args : List Expr} {Q : AV → Store → Prop} {A : Around} {outer : List Env} {s : Shared} (hk : keepIn (KO c.w.params) f = true) (F : InFr c ρ P A outer s σ) (hp : VRels s.heap first pre)
    (h : Evs c ρ P pos args σ (fun as σ₁ => CallJ c ρ f (pre ++ as) σ₁ Q X) X) (hs : (!args.isEmpty && args.all notStar) = true) :
    wpAny (model pw c.w) A (callWith pos f first (backTo pos (starEach args c.env)) []) (fun v s' => ∃ b σ', Good c.w c.H none s σ s' σ' ∧ VRel s'.heap v b ∧ Q b σ') (ExcPost c s σ outer X) s := by
  have fin : ∀ vs as s₁ σ₁, Good c.w c.H none s σ s₁ σ₁ → RVs args.length s₁.heap vs as → CallJ c ρ f (pre ++ as) σ₁ Q X →
      wpAny (model pw c.w) A (call f (first ++ vs)) (fun v s' => ∃ b σ', Good c.w c.H none s σ s' σ' ∧ VRel s'.heap v b ∧ Q b σ') (ExcPost c s σ outer X) s₁ := fun vs as s₁ σ₁ G rs k =>
    wpAny_mono (k A outer s₁ (first ++ vs) (F.bare.step G fun p hp => nomatch hp) ((hp.mono (fun a o e t => G.evo a o e (F.ok.tuple e t) fun q => nomatch q) pre).append rs.1))
      (fun v s₂ ⟨b, σ₂, G₂, r₂, q⟩ => ⟨b, σ₂, G.trans G₂ noneK, r₂, q⟩) (ExcPost.up G)
  cases args with
  | nil => cases hs
  | cons e es =>
    have hs : ((e :: es).all notStar) = true := hs
    rw [List.all_cons, Bool.and_eq_true] at hs
    exact callWith_K (h₀ := s.heap) F.K hk (h.go F (fun vs as s₁ σ₁ G rs k => ⟨(F.step G fun p hp => .inl hp).K, fin vs as s₁ σ₁ G rs k⟩) fun _ _ x => x) (starEach_cons' hs.1) (star_any hs.2)
theorem callWith_args0 {f : Value} {first : List Value} {pre : List AV} {pos : Pos} {Q : AV → Store → Prop} {A : Around} {outer : List Env} {s : Shared} (hk : keepIn (KO c.w.params) f = true) (F : InFr c ρ P A outer s σ) (hp : VRels s.heap first pre)
    (h : CallJ c ρ f pre σ Q X) :
    wpAny (model pw c.w) A (callWith pos f first (backTo pos (starEach [] c.env)) []) (fun v s' => ∃ b σ', Good c.w c.H none s σ s' σ' ∧ VRel s'.heap v b ∧ Q b σ') (ExcPost c s σ outer X) s :=
  callWith_K0 F.K hk (by rw [List.append_nil]; exact h A outer s first F.bare hp)
/-- a call of a def by its name (or of a class) -/
theorem E_call {func : Expr} {args : List Expr} {pos : Pos} {Q : AV → Store → Prop} {f : Addr} (h : Ev c ρ P func σ (fun a σ₁ => a = .val (.ref f) ∧ Evs c ρ P pos args σ₁ (fun as σ₂ => CallJ c ρ (.ref f) as σ₂ Q X) X) X)
    (hk : keepIn (KO c.w.params) (.ref f) = true) (hs : (!args.isEmpty && args.all notStar) = true := by rfl)
    (he : eval (.Call func args [] pos) c.env = (do callWith pos (← eval func c.env) [] (backTo pos (starEach args c.env)) (backToKw pos (keywordEach [] c.env))) := by rfl) : Ev c ρ P (.Call func args [] pos) σ Q X := fun A outer s F =>
  Call_ (h.go F (fun v a s₁ σ₁ G r ⟨e, k⟩ => by
    subst e
    obtain rfl : v = .ref f := r
    exact wpAny_mono (callWith_args (pre := []) hk (F.step G fun p hp => .inl hp) rfl k hs) (fun v s₂ ⟨b, σ₂, G₂, r₂, q⟩ => ⟨b, σ₂, G.trans G₂ noneK, r₂, q⟩) (ExcPost.up G)) fun _ _ x => x) he
theorem E_call0 {func : Expr} {pos : Pos} {Q : AV → Store → Prop} {f : Addr} (h : Ev c ρ P func σ (fun a σ₁ => a = .val (.ref f) ∧ CallJ c ρ (.ref f) [] σ₁ Q X) X)
    (hk : keepIn (KO c.w.params) (.ref f) = true)
    (he : eval (.Call func [] [] pos) c.env = (do callWith pos (← eval func c.env) [] (backTo pos (starEach [] c.env)) (backToKw pos (keywordEach [] c.env))) := by rfl) : Ev c ρ P (.Call func [] [] pos) σ Q X := fun A outer s F =>
  Call_ (h.go F (fun v a s₁ σ₁ G r ⟨e, k⟩ => by
    subst e
    obtain rfl : v = .ref f := r
    exact wpAny_mono (callWith_args0 (pre := []) hk (F.step G fun p hp => .inl hp) rfl k) (fun v s₂ ⟨b, σ₂, G₂, r₂, q⟩ => ⟨b, σ₂, G.trans G₂ noneK, r₂, q⟩) (ExcPost.up G)) fun _ _ x => x) he
/-- a method of a Words object -/
theorem E_meth_gen {o : Expr} {name : Str} {apos pos : Pos} {args : List Expr} {Q : AV → Store → Prop} {f : Addr} (hM : MethAt name f)
    (hbase : attributeBase o name c.env (eval o c.env) = eval o c.env) (hline : (apos.endLine == pos.line) = true)
    (hform : methodCallForm (args.length + ([] : List Keyword).length) (backTo pos (starEach args c.env)) (backToKw pos (keywordEach [] c.env)) = true)
    (h : Ev c ρ P o σ (fun a σ₁ => ∃ x d es, a = .loc x ∧ σ₁ x = some (.inst 193 d es) ∧ es.lookup name = none ∧
      (∀ A outer s, InFr c ρ P A outer s σ₁ → wpAny (model pw c.w) A (callWith pos (.ref f) [.ref x] (backTo pos (starEach args c.env)) []) (fun v s' => ∃ b σ', Good c.w c.H none s σ₁ s' σ' ∧ VRel s'.heap v b ∧ Q b σ') (ExcPost c s σ₁ outer X) s)) X) :
    Ev c ρ P (.Call (.Attribute o name apos) args [] pos) σ Q X := fun A outer s F => by
  show wpAny (model pw c.w) A (eval (.Call (.Attribute o name apos) args [] pos) c.env) _ _ s
  rw [arm_eval_Call, hbase]
  refine wpAny_bind (h.go F (fun v a s₁ σ₁ G r ⟨x, d, es, e, sx, hn, k⟩ => ?_) fun _ _ x => x)
  subst e
  obtain rfl : v = .ref x := r
  have F₁ := F.step G fun p hp => .inl (hp : p ∈ P)
  refine wpAny_bind (wpAny_standAt ?_)
  have hpos : methodCallPos true o c.env apos pos = pure pos := by unfold methodCallPos; simp [hline]
  unfold methodCall
  rw [hform]
  obtain ⟨m, ob, e1, e2, e3, I, R⟩ := cell_at F₁ sx
  have K := F₁.K
  have rn := R name
  rw [hn] at rn
  refine wpAny_bind (wpAny_holding (?_ : wpAny (model pw c.w) A (calleeOf true o c.env (.ref x) name) _ _ s₁))
  unfold calleeOf
  rw [if_pos rfl]
  refine method_of (h := s₁.heap) (y := _) (K _ _ (words_is _)) (K_ns K) ((nsMap_of_in K (wordsNs_is _) _).trans (words_no_ga _)) ((nsMap_of_in K (wordsNs_is _) _).trans (words_no_h _)) ((nsMap_of_in K (wordsNs_is _) _).trans (hM.cls _)) (K _ _ (hM.fn.obj _)) rfl (typeLookup_type _ _) I rn ?_
  refine wpAny_bind (wpAny_of_eq hpos ?_)
  exact wpAny_mono (k A outer s₁ F₁) (fun v s₂ ⟨b, σ₂, G₂, r₂, q⟩ => ⟨b, σ₂, G.trans G₂ noneK, r₂, q⟩) (ExcPost.up G)
end
end Mine

/-! # Text WP6 -/
open PySem PySem.W PyProof.Rows PySem.Calls
set_option Elab.async false
set_option maxRecDepth 10000
set_option linter.unusedVariables false
namespace Mine
/-! # Statements -/
inductive Fl where
  | next | brk | cont
  | ret (a : AV)
noncomputable def FRel (h : Heap) : Flow → Fl → Prop
  | .next, .next => True
  | .brk, .brk => True
  | .cont, .cont => True
  | .ret v, .ret a => VRel h v a
  | _, _ => False
noncomputable def upd : List (Str × AV) → Str → AV → List (Str × AV)
  | [], x, v => [(x, v)]
  | (y, u) :: r, x, v => bif y == x then (y, v) :: r else (y, u) :: upd r x v
theorem lookup_upd {x : Str} {v : AV} : ∀ {ρ : List (Str × AV)} (y : Str), (upd ρ x v).lookup y = if y = x then some v else ρ.lookup y
  | [], y => by
    unfold upd
    by_cases h : y = x
    · subst h; rw [if_pos rfl, List.lookup_cons, beq_self_eq_true]
    · rw [if_neg h, List.lookup_cons, beq_eq_false_iff_ne.mpr h]
  | (z, u) :: r, y => by
    unfold upd
    cases hz : z == x with
    | true =>
      obtain rfl := eq_of_beq hz
      rw [cond_true]
      by_cases h : y = z
      · subst h; rw [if_pos rfl, List.lookup_cons, beq_self_eq_true]
      · rw [if_neg h, List.lookup_cons, List.lookup_cons, beq_eq_false_iff_ne.mpr h]
    | false =>
      rw [cond_false, List.lookup_cons, List.lookup_cons]
      cases hy : y == z with
      | true =>
        obtain rfl := eq_of_beq hy
        rw [if_neg (ne_of_beq_false hz)]
      | false => exact lookup_upd y
section
variable {c : Fc} {ρ : List (Str × AV)} {P : List (Value × AV)} {σ : Store} {X : Store → Prop}
theorem InFr.frameThere {A : Around} {outer : List Env} {s : Shared} (F : InFr c ρ P A outer s σ) {e : Env} (he : e ∈ c.env :: outer) {L : Addr} (hf : e.frame = some L) : (∃ o, s.heap.get? L = some o) ∧ c.H.get? L = none := by
  have st := F.stack
  revert he
  generalize c.env :: outer = l at st
  intro he
  induction l with
  | nil => cases he
  | cons x r ih =>
    obtain ⟨_, ⟨L', o, hf', hn, ho, _⟩, hr⟩ := st
    rcases List.mem_cons.mp he with rfl | he
    · rw [hf] at hf'; cases hf'; exact ⟨⟨o, ho⟩, hn⟩
    · exact ih hr he
/-- some objects change that are nobody's -/
theorem InFr.change {A : Around} {outer : List Env} {s : Shared} (F : InFr c ρ P A outer s σ) {h' : Heap} {tk : Nat} (D : Addr → Prop) (k : ∀ b o, ¬ D b → s.heap.get? b = some o → h'.get? b = some o)
    (hT : ∀ b o, D b → s.heap.get? b = some o → ¬ Tup o) (hD : ∀ b, D b → σ b = none) (hH : ∀ b, D b → c.H.get? b = none) (hf : ∀ e ∈ c.env :: outer, ∀ L, e.frame = some L → ¬ D L) : InFr c ρ P A outer { s with heap := h', toks := tk } σ where
  base := F.base
  handled := F.handled
  depth := F.depth
  units := F.units
  frames := F.frames
  kind := F.kind
  frame := F.frame
  globals := F.globals
  builtins := F.builtins
  stack := funFrames_keep F.stack fun e he L hfr o ho => ⟨o, k L o (hf e he L hfr) ho, id⟩
  apart := F.apart
  ns := by
    obtain ⟨m, hn, hr⟩ := F.ns.is
    refine ⟨m, ?_, fun x av e => ?_⟩
    · obtain ⟨o, es, ep, a1, a2, a3, a4⟩ := hn
      exact ⟨o, es, ep, k _ o (hf _ (.head _) _ F.frame) a1, a2, a3, a4⟩
    · obtain ⟨v, e1, e2⟩ := hr x av e
      exact ⟨v, e1, VRel.mono (fun b o e t => k b o (fun q => hT b o q e t) e) av e2⟩
  known := F.known
  locs := F.locs
  glos := F.glos
  ok := ⟨fun b o e => k b o (fun q => by rw [hH b q] at e; cases e) (F.ok.stays b o e), fun a cl e => ⟨(F.ok.cells a cl e).1.but k hT (fun q => by rw [hD a q] at e; cases e) (fun C d es q r => by
      subst q; have := F.ok.own _ _ _ _ e; rw [hD d r] at this; cases this), (F.ok.cells a cl e).2⟩, F.ok.own⟩
  pend := fun p hp => VRel.mono (fun b o e t => k b o (fun q => hT b o q e t) e) _ (F.pend p hp)
/-- a local is bound -/
theorem InFr.store {A : Around} {outer : List Env} {s : Shared} (F : InFr c ρ P A outer s σ) {m : Str → Option Value} {x : Str} {u : Value} {a : AV} (hx : c.env.kindOf x = some .local) {h' : Heap} {tk : Nat} (hm : ∀ y av, ρ.lookup y = some av → ∃ v, m y = some v ∧ VRel s.heap v av)
    (hn : h'.Ns c.env.locals (fun y => if y = x then some u else m y)) (hs : Heap.SameBut c.env.locals s.heap h') (r : VRel s.heap u a) :
    InFr c (upd ρ x a) P A outer { s with heap := h', toks := tk } σ ∧ Good c.w c.H (some c.env.locals) s σ { s with heap := h', toks := tk } σ := by
  obtain ⟨m', hn0, _⟩ := F.ns.is
  have k : ∀ b o, b ≠ c.env.locals → s.heap.get? b = some o → h'.get? b = some o := fun b o hb e => (hs.2 b hb).trans e
  have hL := F.frameThere (.head _) F.frame
  have hT : ∀ b o, b = c.env.locals → s.heap.get? b = some o → ¬ Tup o := fun b o hb e => by
    obtain ⟨o', e', t⟩ := ns_notTup hn0; subst hb; rw [e] at e'; cases e'; exact t
  have up : ∀ {v : Value} {a : AV}, VRel s.heap v a → VRel h' v a := fun r => VRel.mono (fun b o e t => k b o (fun q => hT b o q e t) e) _ r
  have ok : HeapOK c.w c.H h' σ := ⟨fun b o e => k b o (fun q => by rw [q, hL.2] at e; cases e) (F.ok.stays b o e), fun a cl e => ⟨(F.ok.cells a cl e).1.but (D := fun b => b = c.env.locals) k hT (fun q => by
      subst q; rw [F.sep] at e; cases e) (fun C d es q r => by subst q; have := F.ok.own _ _ _ _ e; rw [r, F.sep] at this; cases this), (F.ok.cells a cl e).2⟩, F.ok.own⟩
  refine ⟨⟨F.base, F.handled, F.depth, F.units, F.frames, F.kind, F.frame, F.globals, F.builtins, ?_, F.apart, ⟨_, hn, fun y av e => ?_⟩, fun y av e => ?_, F.locs, F.glos, ok, fun p hp => up (F.pend p hp)⟩, ⟨rfl, rfl, rfl⟩, ok, fun b o e _ hb => k b o (fun q => hb (by rw [q])) e, fun _ _ _ n => n⟩
  · refine funFrames_keep F.stack fun e he L hf o ho => ?_
    by_cases q : L = c.env.locals
    · subst q; obtain ⟨o', _, _, e', d', _⟩ := hn
      exact ⟨o', e', fun _ vs q => by rw [d'] at q; cases q⟩
    · exact ⟨o, k L o q ho, id⟩
  · rw [lookup_upd] at e
    by_cases q : y = x
    · rw [if_pos q] at e ⊢; cases e; exact ⟨u, rfl, up r⟩
    · rw [if_neg q] at e ⊢
      obtain ⟨v, e1, e2⟩ := hm y av e
      exact ⟨v, e1, up e2⟩
  · rw [lookup_upd] at e
    by_cases q : y = x
    · rw [q]; exact hx
    · rw [if_neg q] at e; exact F.known y av e
end
noncomputable abbrev SPost (c : Fc) (A : Around) (outer : List Env) (s : Shared) (σ : Store) (Q : Fl → List (Str × AV) → Store → Prop) : Flow → Shared → Prop := fun f s' => ∃ fl ρ' σ', Good c.w c.H (some c.env.locals) s σ s' σ' ∧ InFr c ρ' [] A outer s' σ' ∧ FRel s'.heap f fl ∧ Q fl ρ' σ'
noncomputable abbrev SExc (c : Fc) (s : Shared) (σ : Store) (outer : List Env) (X : Store → Prop) : Value → Shared → Prop := fun x s' => ∃ σ', Bad c.w c.H (some c.env.locals) s σ s' σ' x (c.env :: outer) (some c.env.locals) ∧ X σ'
noncomputable def JT (c : Fc) (ρ : List (Str × AV)) (t : Sem Flow) (σ : Store) (Q : Fl → List (Str × AV) → Store → Prop) (X : Store → Prop) : Prop :=
  ∀ A outer s, InFr c ρ [] A outer s σ → wpAny (model pw c.w) A t (SPost c A outer s σ Q) (SExc c s σ outer X) s
noncomputable def JS (c : Fc) (ρ : List (Str × AV)) (ss : List Stmt) (σ : Store) (Q : Fl → List (Str × AV) → Store → Prop) (X : Store → Prop) : Prop := JT c ρ (execs ss c.env) σ Q X
noncomputable def J1 (c : Fc) (ρ : List (Str × AV)) (st : Stmt) (σ : Store) (Q : Fl → List (Str × AV) → Store → Prop) (X : Store → Prop) : Prop := JT c ρ (exec st c.env) σ Q X
section
variable {c : Fc} {ρ : List (Str × AV)} {σ : Store} {Q : Fl → List (Str × AV) → Store → Prop} {X : Store → Prop}
theorem frameK {ρ' : List (Str × AV)} {A : Around} {outer : List Env} {s₁ s₂ : Shared} {σ₂ : Store} (F : InFr c ρ' [] A outer s₂ σ₂) : ∀ a, some c.env.locals = some a → ∀ o, s₁.heap.get? a = some o → ∃ o', s₂.heap.get? a = some o' := fun a e o _ => by
  cases e; obtain ⟨o', e', _⟩ := F.frameObj; exact ⟨o', e'⟩
theorem JT.mono {t : Sem Flow} {Q' : Fl → List (Str × AV) → Store → Prop} {X' : Store → Prop} (h : JT c ρ t σ Q X) (q : ∀ f ρ σ, Q f ρ σ → Q' f ρ σ) (x : ∀ σ, X σ → X' σ) : JT c ρ t σ Q' X' := fun A outer s F =>
  wpAny_mono (h A outer s F) (fun _ _ ⟨fl, ρ', σ', g, i, r, k⟩ => ⟨fl, ρ', σ', g, i, r, q _ _ _ k⟩) fun _ _ ⟨σ', b, k⟩ => ⟨σ', b, x σ' k⟩
theorem SExc.up {s₁ s₂ : Shared} {σ₁ σ₂ : Store} {outer : List Env} {ρ' A} (g : Good c.w c.H (some c.env.locals) s₁ σ₁ s₂ σ₂) (F : InFr c ρ' [] A outer s₂ σ₂) : ∀ e s', SExc c s₂ σ₂ outer X e s' → SExc c s₁ σ₁ outer X e s' := fun _ _ ⟨σ', b, x⟩ => ⟨σ', g.bad b (frameK F), x⟩
theorem SExc.of {s s' : Shared} {outer : List Env} {e : Value} (x : ExcPost c s σ outer X e s') : SExc c s σ outer X e s' := let ⟨σ', b, k⟩ := x; ⟨σ', b.up, k⟩
theorem JT.go {t : Sem Flow} {A : Around} {outer : List Env} {s : Shared} {Q' : Flow → Shared → Prop} {E' : Value → Shared → Prop} (h : JT c ρ t σ Q X) (F : InFr c ρ [] A outer s σ)
    (k : ∀ f fl ρ₁ s₁ σ₁, Good c.w c.H (some c.env.locals) s σ s₁ σ₁ → InFr c ρ₁ [] A outer s₁ σ₁ → FRel s₁.heap f fl → Q fl ρ₁ σ₁ → Q' f s₁) (x : ∀ e s₁, SExc c s σ outer X e s₁ → E' e s₁) : wpAny (model pw c.w) A t Q' E' s :=
  wpAny_mono (h A outer s F) (fun f s₁ ⟨fl, ρ₁, σ₁, g, i, r, q⟩ => k f fl ρ₁ s₁ σ₁ g i r q) x
theorem S_nil (q : Q .next ρ σ) : JS c ρ [] σ Q X := fun A outer s F => wpAny_execs_nil ⟨.next, ρ, σ, .refl F.ok, F, trivial, q⟩
/-- what is still to do behind a statement (a name for it keeps the proofs' terms small) -/
noncomputable abbrev seqQ (c : Fc) (rest : List Stmt) (Q : Fl → List (Str × AV) → Store → Prop) (X : Store → Prop) : Fl → List (Str × AV) → Store → Prop := fun fl ρ₁ σ₁ => match fl with
  | .next => JS c ρ₁ rest σ₁ Q X
  | f => Q f ρ₁ σ₁
/-- what a loop's body ends in: the next turn, or what stands behind the loop -/
noncomputable abbrev loopQ (I : List (Str × AV) → Store → Prop) (Q : Fl → List (Str × AV) → Store → Prop) : Fl → List (Str × AV) → Store → Prop := fun fl ρ₂ σ₂ => match fl with
  | .next => I ρ₂ σ₂
  | .cont => I ρ₂ σ₂
  | .brk => Q .next ρ₂ σ₂
  | .ret a => Q (.ret a) ρ₂ σ₂
theorem S_cons {st : Stmt} {rest : List Stmt} (h : J1 c ρ st σ (seqQ c rest Q X) X) : JS c ρ (st :: rest) σ Q X := fun A outer s F =>
  wpAny_execs_cons (h.go F (fun f fl ρ₁ s₁ σ₁ G F₁ r k => by
    cases f <;> cases fl <;> first | exact r.elim | skip
    · exact JT.go k F₁ (fun f fl ρ₂ s₂ σ₂ G₂ F₂ r₂ q => ⟨fl, ρ₂, σ₂, G.trans G₂ (frameK F₁), F₂, r₂, q⟩) (SExc.up G F₁)
    · exact ⟨_, ρ₁, σ₁, G, F₁, r, k⟩
    · exact ⟨_, ρ₁, σ₁, G, F₁, r, k⟩
    · exact ⟨_, ρ₁, σ₁, G, F₁, r, k⟩) fun _ _ x => x)
theorem InFr.stepL {A : Around} {outer : List Env} {s s' : Shared} {σ' : Store} (F : InFr c ρ [] A outer s σ) (G : Good c.w c.H none s σ s' σ') : InFr c ρ [] A outer s' σ' := F.step G fun p hp => nomatch hp
theorem S_return {e : Expr} {pos : Pos} (h : Ev c ρ [] e σ (fun a σ₁ => Q (.ret a) ρ σ₁) X) : J1 c ρ (.Return (some e) pos) σ Q X := fun A outer s F =>
  wpAny_Return_some (h.go F (fun v a s₁ σ₁ G r q => ⟨.ret a, ρ, σ₁, G.up, F.stepL G, r, q⟩) fun _ _ x => SExc.of x)
theorem storeName_ {A : Around} {outer : List Env} {s : Shared} {P : List (Value × AV)} {x : Str} {v : Value} {a : AV} {Q' : Unit → Shared → Prop} {E' : Value → Shared → Prop} (hx : c.loc.contains x = true) (F : InFr c ρ P A outer s σ) (r : VRel s.heap v a)
    (q : ∀ s', InFr c (upd ρ x a) P A outer s' σ → Good c.w c.H (some c.env.locals) s σ s' σ → Q' () s') : wpAny (model pw c.w) A (storeName c.env x v) Q' E' s := by
  obtain ⟨m, hn, hr⟩ := F.ns.is
  refine wpAny_storeName_local (F.locs _ hx) hn (fun h' hn' hs => ?_) (by rw [F.kind]; rfl)
  obtain ⟨F', G⟩ := F.store (F.locs _ hx) (tk := s.toks + 1) hr hn' hs r
  exact q _ F' G
theorem S_assign {x : Str} {pos' pos : Pos} {value : Expr} (hx : c.loc.contains x = true) (h : Ev c ρ [] value σ (fun a σ₁ => Q .next (upd ρ x a) σ₁) X) (hs : swapsWith value (some (.Name x pos')) pos.line c.env = pure false := by rfl) : J1 c ρ (.Assign [.Name x pos'] value pos) σ Q X := fun A outer s F =>
  wpAny_Assign_Name (h.go F (fun v a s₁ σ₁ G r q => storeName_ hx (F.stepL G) r fun s₂ F₂ G₂ => ⟨.next, _, σ₁, G.up.trans G₂ (frameK (F.stepL G)), F₂, trivial, q⟩) fun _ _ x => SExc.of x) hs
theorem S_aug {x : Str} {pos' pos : Pos} {op : Operator} {value : Expr} {v : AV} (hx : c.loc.contains x = true) (hv : ρ.lookup x = some v)
    (h : Ev c ρ [] value σ (fun b σ₁ => ∀ y z P, (y, v) ∈ P → (z, b) ∈ P → J c ρ P VRel (inplaceOp op y z) σ₁ (fun a σ₂ => Q .next (upd ρ x a) σ₂) X) X) : J1 c ρ (.AugAssign (.Name x pos') op value pos) σ Q X := fun A outer s F => by
  obtain ⟨m, hn, hr⟩ := F.ns.is
  obtain ⟨u, e, r⟩ := hr x v hv
  refine wpAny_AugAssign_Name (wpAny_loadName_local F.kind (F.known x v hv) hn e ?_)
  have F0 : InFr c ρ [(u, v)] A outer s σ := { F with pend := fun p hp => by cases List.mem_singleton.mp hp; exact r }
  refine (h.weaken (P' := [(u, v)]) (fun p hp => nomatch hp)).go F0 (fun z b s₁ σ₁ G r₁ k => ?_) fun _ _ x => SExc.of x
  have F₁ : InFr c ρ [(u, v), (z, b)] A outer s₁ σ₁ := F0.step G fun p hp => by
    rcases List.mem_cons.mp hp with rfl | hp
    · exact .inl (.head _)
    · cases List.mem_singleton.mp hp; exact .inr r₁
  refine (k u z _ (.head _) (.tail _ (.head _))).go F₁ (fun w a s₂ σ₂ G₂ r₂ q => ?_) fun _ _ x => SExc.of (ExcPost.up G _ _ x)
  have GG := G.trans G₂ noneK
  exact storeName_ hx (F.stepL GG) r₂ fun s₃ F₃ G₃ => ⟨.next, _, σ₂, GG.up.trans G₃ (frameK (F.stepL GG)), F₃, trivial, q⟩
theorem S_if {test : Expr} {body orelse : List Stmt} {pos : Pos} (h : Tst c ρ [] test σ (fun b σ₁ => if b then JS c ρ body σ₁ Q X else JS c ρ orelse σ₁ Q X) X) : J1 c ρ (.If test body orelse pos) σ Q X := fun A outer s F =>
  wpAny_If (h.go F (fun v b s₁ σ₁ G r k => by
    subst r
    have F₁ := F.stepL G
    cases v with
    | true => exact JT.go k F₁ (fun f fl ρ₂ s₂ σ₂ G₂ F₂ r₂ q => ⟨fl, ρ₂, σ₂, G.up.trans G₂ (frameK F₁), F₂, r₂, q⟩) (SExc.up G.up F₁)
    | false => exact JT.go k F₁ (fun f fl ρ₂ s₂ σ₂ G₂ F₂ r₂ q => ⟨fl, ρ₂, σ₂, G.up.trans G₂ (frameK F₁), F₂, r₂, q⟩) (SExc.up G.up F₁)) fun _ _ x => SExc.of x)
theorem S_break {pos : Pos} (q : Q .brk ρ σ) : J1 c ρ (.Break pos) σ Q X := fun A outer s F => wpAny_Break ⟨.brk, ρ, σ, .refl F.ok, F, trivial, q⟩
theorem S_expr {e : Expr} {pos : Pos} (h : Ev c ρ [] e σ (fun _ σ₁ => Q .next ρ σ₁) X) (hi : interactive c.env = false := by rfl) (hs : swapsWith e none pos.line c.env = pure false := by rfl) : J1 c ρ (.Expr e pos) σ Q X := fun A outer s F =>
  wpAny_Expr_any (h.go F (fun v a s₁ σ₁ G r q => ⟨.next, ρ, σ₁, G.up, F.stepL G, trivial, q⟩) fun _ _ x => SExc.of x) hi hs
end
/-! ## Exceptions pass a loop -/
mutual
theorem VRel.slots {h h' : Heap} (k : ∀ a o, h.get? a = some o → Tup o → ∃ sl, h'.get? a = some { o with slots := sl }) : ∀ {v : Value} (a : AV), VRel h v a → VRel h' v a
  | _, .none, x => x
  | _, .bool _, x => x
  | _, .int _, x => x
  | _, .str _, x => x
  | _, .tup as, ⟨a, o, n, vs, e, g, c, d, r⟩ => let ⟨sl, g'⟩ := k a o g ⟨c, _, _, d⟩; ⟨a, _, n, vs, e, g', c, d, VRels.slots k as r⟩
  | _, .loc _, x => x
  | _, .val _, x => x
theorem VRels.slots {h h' : Heap} (k : ∀ a o, h.get? a = some o → Tup o → ∃ sl, h'.get? a = some { o with slots := sl }) : ∀ {vs : List Value} (as : List AV), VRels h vs as → VRels h' vs as
  | _, [], x => x
  | _, a :: as, ⟨x, xs, e, r, rs⟩ => ⟨x, xs, e, VRel.slots k a r, VRels.slots k as rs⟩
end
theorem slots_tup {h h' : Heap} (u : h.UpToSlots h') : ∀ a o, h.get? a = some o → Tup o → ∃ sl, h'.get? a = some { o with slots := sl } := fun a o e t => u a o e fun vs q => by obtain ⟨_, _, _, d⟩ := t; rw [d] at q; cases q
theorem Bad.slots {w : World} {H : Heap} {L : Option Addr} {s s' : Shared} {σ σ' : Store} {x x' : Value} {stack stack' : List Env} {l l' : Option Addr} {h' : Heap} (b : Bad w H L s σ s' σ' x stack l) (u : s'.heap.UpToSlots h') (n : ∃ a, x' = .ref a ∧ ExcAt H h' stack' l' a) :
    Bad w H L s σ { s' with heap := h' } σ' x' stack' l' where
  rest := b.rest
  exc := n
  lists := fun a as e => by
    obtain ⟨⟨o, n, vs, g, cl, dn, d, r⟩, hn⟩ := b.lists a as e
    obtain ⟨sl, g'⟩ := u a o g fun vs q => by rw [d] at q; cases q
    exact ⟨⟨_, n, vs, g', cl, dn, d, r.slots (slots_tup u) as⟩, hn⟩
  evo := fun a o e n hl f => by
    obtain ⟨sl, e'⟩ := b.evo a o e n hl f
    obtain ⟨sl2, e2⟩ := u a { o with slots := sl } e' f
    exact ⟨sl2, e2⟩
  old := b.old
section
variable {M : Model} {A : Around} {E : Value → Shared → Prop} {s : Shared}
theorem looks_new {base : Heap} {env : Env} {outer : List Env} {L e : Addr} {oe : Obj} {vs : Array Value} {a0 : Value} {Q : Unit → Shared → Prop}
    (hfr : A.frames = some (env :: outer)) (hl : s.heap.FunFrames base (env :: outer)) (hf : env.frame = some L)
    (he : s.heap.get? e = some oe) (hkb : base.StaysIn s.heap) (hen : base.get? e = none) (hd : oe.data = .fields vs) (h1 : vs[1]? = some .none) (h0 : vs[0]? = some a0)
    (h : ∀ h', Heap.HeldW base (env :: outer) e oe.cls a0 L h' → s.heap.UpToSlots h' → Q () { s with heap := h' }) : wpAny M A (noteFrame (.ref e) env) Q E s := by
  unfold noteFrame
  simp only [hf]
  refine wpAny_bind (wpAny_field he hd h1 ?_)
  rw [if_neg (by decide)]
  exact wpAny_entryW hfr hl hf he hkb hen hd (Array.getElem?_eq_some_iff.mp h1).1 h0 fun h' hN => h h' ⟨hN.1, hen, hN.2.1, hN.2.2.1⟩ hN.2.2.2
theorem setFlight_here {base : Heap} {l : List Env} {e L : Addr} {cls a0 : Value} {Q : Unit → Shared → Prop} (hh : Heap.HeldW base l e cls a0 L s.heap)
    (hQ : ∀ h', Heap.HeldW base l e cls a0 L h' → s.heap.UpToSlots h' → Q () { s with heap := h' }) : wpAny M A (setFlight (.ref e) (some L)) Q E s := by
  obtain ⟨hkb, hen, hl, ⟨oe, vs, T, oT, ts, he, hcls, hd, h1, hnT, hTe, hT, hdT, h3⟩⟩ := hh
  have hsz3 : 3 < ts.size := (Array.getElem?_eq_some_iff.mp h3).1
  have other : ∀ b, b ≠ T → (s.heap.update T (Obj.mapFields (·.setIfInBounds 3 ((some L).elim Value.none fun f => rawInt f)))).get? b = s.heap.get? b :=
    fun b hb => Heap.get?_update_other _ _ (Ne.symm hb)
  have noRecord : ∀ b o, s.heap.get? b = some o → (∀ vs, o.data ≠ .fields vs) → b ≠ T := fun b o hb hnf q => by
    rw [q, hT] at hb; injection hb with hb; subst hb; exact hnf ts hdT
  unfold setFlight
  refine wpAny_bind (wpAny_field he hd h1 ?_)
  rw [if_pos (show (Value.ref T != Value.none) = true from by simp)]
  refine wpAny_setField hT hdT hsz3 (hQ _ ⟨fun b o hbo => (other b fun q => by rw [q, hnT] at hbo; cases hbo).trans (hkb b o hbo), hen,
    hl.of_keeps fun b o hb hnf => ⟨o, (other b (noRecord b o hb hnf)).trans hb, rfl⟩, ?_⟩ fun b o hb hnf => ⟨o.slots, (other b (noRecord b o hb hnf)).trans hb⟩)
  exact ⟨oe, vs, T, _, _, (other e (Ne.symm hTe)).trans he, hcls, hd, h1, hnT, hTe, Heap.get?_update_self _ hT (Obj.isFreed_of_fields (Obj.data_mapFields hdT _)), Obj.data_mapFields hdT _, by simp [hsz3]⟩
end
section
variable {c : Fc} {ρ : List (Str × AV)} {σ : Store} {Q : Fl → List (Str × AV) → Store → Prop} {X : Store → Prop}
theorem note_any {A : Around} {outer : List Env} {s s' : Shared} {e : Value} {E' : Value → Shared → Prop} {Q' : Unit → Shared → Prop} (hfr : A.frames = some (c.env :: outer)) (hf : c.env.frame = some c.env.locals) (x : SExc c s σ outer X e s')
    (q : ∀ a σ' s'' a0, e = .ref a → Bad c.w c.H (some c.env.locals) s σ s'' σ' e (c.env :: outer) (some c.env.locals) → Heap.HeldW c.H (c.env :: outer) a (.ref 57) a0 c.env.locals s''.heap → X σ' → Q' () s'') : wpAny (model pw c.w) A (noteFrame e c.env) Q' E' s' := by
  obtain ⟨σ', b, k⟩ := x
  obtain ⟨a, rfl, w⟩ := b.exc
  cases w with
  | new st n fr e1 cl d h0 h1 =>
    refine looks_new hfr fr hf e1 st n d h1 h0 fun h' hh u => ?_
    rw [cl] at hh
    exact q a σ' _ _ rfl (b.slots u ⟨a, rfl, .held rfl hh⟩) hh k
  | flying fl => exact wpAny_looks_onW hfr hf fl fun h' hh u => q a σ' _ _ rfl (b.slots u ⟨a, rfl, .held rfl hh⟩) hh k
  | held l hh =>
    cases l
    exact wpAny_noteFrame_againW hf hh.2.2.2 (q a σ' _ _ rfl b hh k)
theorem passOwn {A : Around} {outer : List Env} {s : Shared} (hfr : A.frames = some (c.env :: outer)) (hf : c.env.frame = some c.env.locals) : PassesOwn (model pw c.w) A c.env (SExc c s σ outer X) := fun e s' x => by
  refine note_any hfr hf x fun a σ' s'' a0 ea b hh k => ?_
  subst ea
  have hh' := hh
  obtain ⟨hkb, hen, hl, ⟨oe, vs, T, oT, ts, he, hcls, hd, h1, hnT, hTe, hT, hdT, h3⟩⟩ := hh'
  unfold cameBackBy
  refine wpAny_bind (wpAny_field he hd h1 ?_)
  rw [if_neg (show ¬ ((Value.ref T == Value.none) = true) from by simp)]
  show wpAny _ _ (setFlight (.ref a) c.env.frame) _ _ _
  rw [hf]
  exact setFlight_here hh fun h' hh2 u => ⟨σ', b.slots u ⟨a, rfl, .held rfl hh2⟩, k⟩
theorem S_while (I : Nat → List (Str × AV) → Store → Prop) {test : Expr} {body : List Stmt} {pos : Pos}
    (turn : ∀ n ρ σ, I n ρ σ → Tst c ρ [] test σ (fun b σ₁ => if b then JS c ρ body σ₁ (loopQ (fun ρ₂ σ₂ => ∃ m, m < n ∧ I m ρ₂ σ₂) Q) X else Q .next ρ σ₁) X)
    (n : Nat) (h : I n ρ σ) : J1 c ρ (.While test body [] pos) σ Q X := fun A outer s F => by
  have hE := passOwn (σ := σ) (X := X) (s := s) F.frames F.frame
  refine wpAny_While (codeAny_whileLoop (fun n s' => ∃ ρ' σ', Good c.w c.H (some c.env.locals) s σ s' σ' ∧ InFr c ρ' [] A outer s' σ' ∧ I n ρ' σ') (fun n s' ⟨ρ', σ', G, F', hI⟩ => ?_) n ⟨ρ, σ, .refl F.ok, F, h⟩)
  refine wpAny_passesOwn hE ?_
  refine (turn n ρ' σ' hI).go F' (fun v b s₁ σ₁ G₁ r k => ?_) fun e s₁ x => SExc.up G F' e s₁ (SExc.of x)
  subst r
  have F₁ := F'.stepL G₁
  have GG := G.trans G₁.up (frameK F')
  cases v with
  | false => exact wpAny_execs_nil ⟨.next, ρ', σ₁, GG, F₁, trivial, k⟩
  | true =>
    refine wpAny_passesOwn hE (JT.go k F₁ (fun f fl ρ₂ s₂ σ₂ G₂ F₂ r₂ q => ?_) (SExc.up GG F₁))
    have G3 := GG.trans G₂ (frameK F₁)
    cases f <;> cases fl <;> first | exact r₂.elim | skip
    · obtain ⟨m, hm, q⟩ := q; exact ⟨m, hm, ρ₂, σ₂, G3, F₂, q⟩
    · exact ⟨.next, ρ₂, σ₂, G3, F₂, trivial, q⟩
    · obtain ⟨m, hm, q⟩ := q; exact ⟨m, hm, ρ₂, σ₂, G3, F₂, q⟩
    · exact ⟨.ret _, ρ₂, σ₂, G3, F₂, r₂, q⟩
end
end Mine

/-! # Text WP7 -/
open PySem PySem.W PyProof.Rows PySem.Calls
set_option Elab.async false
set_option maxRecDepth 10000
set_option linter.unusedVariables false
namespace Mine
/-! # A def is called -/
noncomputable def fdOf (a : Addr) : FuncData := fnData (rowOf a) (rowOf a).stmt
noncomputable def bodyOf (a : Addr) : List Stmt := match (rowOf a).stmt with
  | .FunctionDef _ _ b _ _ _ _ _ _ _ => b
  | _ => []
noncomputable def isLocal : Option NameKind → Bool
  | some .local => true
  | _ => false
noncomputable def isGlob : Option NameKind → Bool
  | some .globalImplicit => true
  | _ => false
noncomputable def notCell : NameKind → Bool
  | .cell => false
  | _ => true
noncomputable def isFun : ScopeKind → Bool
  | .function => true
  | _ => false
noncomputable def distinct : List Str → Bool
  | [] => true
  | x :: r => !r.contains x && distinct r
structure FnChk (a : Addr) (ps loc glo : List Str) : Prop where
  at_ : FnAt a
  ok : ((fdOf a).scope.names.all (fun x => notCell x.2) && ps.all (fun x => isLocal ((fdOf a).scope.names.lookup x)) && loc.all (fun x => isLocal ((fdOf a).scope.names.lookup x)) && glo.all (fun x => isGlob ((fdOf a).scope.names.lookup x)) &&
    isFun (fdOf a).scope.kind && !(fdOf a).scope.isCoroutine && !(fdOf a).scope.isGenerator && distinct ps) = true
  data : (rowOf a).obj.data = .func (fdOf a)
  code : (fdOf a).code = .ref (rowOf a).code
  qual : (fdOf a).qualname = str (rowOf a).qual
  body : (fdOf a).body = .stmts (bodyOf a)
  glb : (fdOf a).globals = mainGlobals
  blt : (fdOf a).builtins = builtinsNs
noncomputable def calleeFc (c : Fc) (a L : Addr) (loc glo : List Str) : Fc := ⟨c.w, c.H, c.mg, c.mb, c.n - 1, callEnv (fdOf a) L a, loc, glo⟩
theorem lookup_rev {α : Type} : ∀ {l : List (Str × α)}, distinct (l.map (·.1)) = true → ∀ x, l.reverse.lookup x = l.lookup x
  | [], _, _ => rfl
  | (y, v) :: r, h, x => by
    simp only [List.map_cons, distinct, Bool.and_eq_true, Bool.not_eq_true'] at h
    rw [List.reverse_cons, List.lookup_append, lookup_rev h.2, List.lookup_cons, List.lookup_cons]
    cases q : x == y with
    | true =>
      obtain rfl := eq_of_beq q
      have : r.lookup x = none := by
        cases e : r.lookup x with
        | none => rfl
        | some u =>
          exfalso
          have : ∀ {l : List (Str × α)}, l.lookup x = some u → (l.map (·.1)).contains x = true := by
            intro l
            induction l with
            | nil => intro e; cases e
            | cons p l ih =>
              obtain ⟨z, w⟩ := p
              intro e
              rw [List.lookup_cons] at e
              rw [List.map_cons, List.contains_cons]
              cases q : x == z with
              | true => rfl
              | false => rw [q] at e; rw [Bool.false_or]; exact ih e
          rw [this e] at h; cases h.1
      rw [this]; rfl
    | false => simp
theorem lookup_zip {h : Heap} : ∀ {ps : List Str} {vals : List Value} {as : List AV} {ev : List (Str × Value)} {ea : List (Str × AV)}, VRels h vals as → ps.length = as.length → (∀ x av, ea.lookup x = some av → ∃ v, ev.lookup x = some v ∧ VRel h v av) →
    ∀ x av, (ps.zip as ++ ea).lookup x = some av → ∃ v, (ps.zip vals ++ ev).lookup x = some v ∧ VRel h v av
  | [], _, [], _, _, e, _, k, x, av, h => by cases e; exact k x av h
  | p :: ps, _, a :: as, _, _, ⟨v, vs, e, r, rs⟩, hl, k, x, av, h => by
    subst e
    simp only [List.zip_cons_cons, List.cons_append, List.lookup_cons] at h ⊢
    cases q : x == p with
    | true => rw [q] at h; cases h; exact ⟨v, rfl, r⟩
    | false => rw [q] at h; exact lookup_zip rs (by simpa using hl) k x av h
  | [], _, _ :: _, _, _, _, hl, _, _, _, _ => by cases hl
  | _ :: _, _, [], _, _, _, hl, _, _, _, _ => by cases hl
noncomputable def noExtra : List (Str × Value × AV) := []
/-- how the parameters are bound -/
noncomputable def Binds (a : Addr) (ps : List Str) (ex : List (Str × Value × AV)) : Prop := ∀ (P : Params) (s : Shared) (vals : List Value), (KO P).In s.heap → vals.length = ps.length → BindsTo s (fdOf a) ⟨vals, []⟩ (ps.zip vals ++ ex.map fun e => (e.1, e.2.1))
theorem lenS {n : Nat} {l : List Value} (h : l.length = n + 1) : ∃ v r, l = v :: r ∧ r.length = n := by
  cases l with
  | nil => cases h
  | cons v r => exact ⟨v, r, rfl, Nat.succ.inj h⟩
theorem len0 {l : List Value} (h : l.length = 0) : l = [] := List.eq_nil_of_length_eq_zero h
theorem len1 {l : List Value} (h : l.length = 1) : ∃ v, l = [v] := by
  obtain ⟨v, r, rfl, h'⟩ := lenS h
  obtain rfl := len0 h'
  exact ⟨v, rfl⟩
theorem len2 {l : List Value} (h : l.length = 2) : ∃ v u, l = [v, u] := by
  obtain ⟨v, r, rfl, h'⟩ := lenS h
  obtain ⟨u, rfl⟩ := len1 h'
  exact ⟨v, u, rfl⟩
theorem len3 {l : List Value} (h : l.length = 3) : ∃ v u t, l = [v, u, t] := by
  obtain ⟨v, r, rfl, h'⟩ := lenS h
  obtain ⟨u, t, rfl⟩ := len2 h'
  exact ⟨v, u, t, rfl⟩
theorem len4 {l : List Value} (h : l.length = 4) : ∃ v u t w, l = [v, u, t, w] := by
  obtain ⟨v, r, rfl, h'⟩ := lenS h
  obtain ⟨u, t, w, rfl⟩ := len3 h'
  exact ⟨v, u, t, w, rfl⟩
theorem binds1 {a : Addr} {ps : List Str} (hp : ps.length = 1) (h : ∀ v, bindArgs (fdOf a) ⟨[v], []⟩ = pure (ps.zip [v] ++ ([] : List (Str × Value × AV)).map fun e => (e.1, e.2.1))) : Binds a ps [] := fun P s vals X hl => by
  obtain ⟨v, rfl⟩ := len1 (hl.trans hp)
  exact .of_eq (h v)
theorem binds2 {a : Addr} {ps : List Str} (hp : ps.length = 2) (h : ∀ v u, bindArgs (fdOf a) ⟨[v, u], []⟩ = pure (ps.zip [v, u] ++ ([] : List (Str × Value × AV)).map fun e => (e.1, e.2.1))) : Binds a ps [] := fun P s vals X hl => by
  obtain ⟨v, u, rfl⟩ := len2 (hl.trans hp)
  exact .of_eq (h v u)
theorem binds3 {a : Addr} {ps : List Str} (hp : ps.length = 3) (h : ∀ v u t, bindArgs (fdOf a) ⟨[v, u, t], []⟩ = pure (ps.zip [v, u, t] ++ ([] : List (Str × Value × AV)).map fun e => (e.1, e.2.1))) : Binds a ps [] := fun P s vals X hl => by
  obtain ⟨v, u, t, rfl⟩ := len3 (hl.trans hp)
  exact .of_eq (h v u t)
theorem binds4 {a : Addr} {ps : List Str} (hp : ps.length = 4) (h : ∀ v u t w, bindArgs (fdOf a) ⟨[v, u, t, w], []⟩ = pure (ps.zip [v, u, t, w] ++ ([] : List (Str × Value × AV)).map fun e => (e.1, e.2.1))) : Binds a ps [] := fun P s vals X hl => by
  obtain ⟨v, u, t, w, rfl⟩ := len4 (hl.trans hp)
  exact .of_eq (h v u t w)
section
variable {c : Fc} {ρ : List (Str × AV)} {σ : Store} {Q : AV → Store → Prop} {X : Store → Prop}
noncomputable def CodeJ (c : Fc) (ρ : List (Str × AV)) (f : Value) (as : List AV) (σ : Store) (Q : AV → Store → Prop) (X : Store → Prop) : Prop :=
  ∀ A outer s vals, InFr c ρ [] A outer s σ → VRels s.heap vals as → codeAny (model pw c.w) A (.call f ⟨vals, []⟩) (fun r s' => match r with
    | .ok (.ret v) => ∃ b σ', Good c.w c.H none s σ s' σ' ∧ VRel s'.heap v b ∧ Q b σ'
    | .ok _ => False
    | .error e => ExcPost c s σ outer X e s') s
theorem CodeJ.call {f : Value} {as : List AV} (h : CodeJ c ρ f as σ Q X) : CallJ c ρ f as σ Q X := fun A outer s vals F rs => wpAny_call (h A outer s vals F rs)
theorem call_code {a : Addr} {ps loc glo : List Str} {ex : List (Str × Value × AV)} (K : FnChk a (ps ++ ex.map (·.1)) loc glo) (B : Binds a ps ex) (hn : 1 ≤ c.n) {as : List AV} (hl : as.length = ps.length) (hx : ∀ (h : Heap) x av, (ex.map fun e => (e.1, e.2.2)).lookup x = some av → ∃ v, (ex.map fun e => (e.1, e.2.1)).lookup x = some v ∧ VRel h v av)
    (body : ∀ L, JS (calleeFc c a L loc glo) (ps.zip as ++ ex.map fun e => (e.1, e.2.2)) (bodyOf a) σ (fun fl _ σ' => ∃ b, (fl = .ret b ∨ (fl = .next ∧ b = .none)) ∧ Q b σ') X) : CodeJ c ρ (.ref a) as σ Q X := fun A outer s vals F rs => by
  have kk := K.ok
  simp only [Bool.and_eq_true, Bool.not_eq_true'] at kk
  obtain ⟨⟨⟨⟨⟨⟨⟨k1, k2⟩, k3⟩, k4⟩, k5⟩, k6⟩, k7⟩, k8⟩ := kk
  have kind : (fdOf a).scope.kind = .function := by revert k5; cases (fdOf a).scope.kind <;> first | (intro _; rfl) | (intro h; cases h)
  have hlv : vals.length = ps.length := rs.length.trans hl
  have ho : s.heap.get? a = some (rowOf a).obj := F.K _ _ (K.at_.obj _)
  have hcd : s.heap.CodeRec (fdOf a).code (fdOf a).qualname := by rw [K.code, K.qual]; exact (F.base.says.code _ K.at_.mem).keeps F.ok.stays
  have names : (ps.zip vals ++ ex.map fun e => (e.1, e.2.1)).map (·.1) = ps ++ ex.map (·.1) := by
    rw [List.map_append, List.map_map, List.map_fst_zip (by (first | lia | omega))]
    rfl
  refine (codeAny_call_def (by have := F.depth; show A.depth < 1000; (first | lia | omega)) ho K.data (F.base.lim.keeps F.ok.stays) hcd K.body (B _ s vals F.K hlv) (fun x hx' => ?_) (fun x hx' => ?_) (fun h₀ hns hk => ?_) k6 k7 kind)
  · have := List.all_eq_true.mp k1 x hx'
    intro q; rw [q] at this; cases this
  · have : x.1 ∈ ps ++ ex.map (·.1) := by rw [← names]; exact List.mem_map_of_mem hx'
    have := List.all_eq_true.mp k2 _ this
    revert this
    cases (fdOf a).scope.names.lookup x.1 with
    | none => intro h; cases h
    | some k => cases k <;> first | (intro _; rfl) | (intro h; cases h)
  have isloc : ∀ {x : Str}, isLocal ((fdOf a).scope.names.lookup x) = true → (callEnv (fdOf a) s.heap.objs.size a).kindOf x = some .local := fun {x} h => by
    show (fdOf a).scope.names.lookup x = _
    revert h
    cases (fdOf a).scope.names.lookup x with
    | none => intro h; cases h
    | some k => cases k <;> first | (intro _; rfl) | (intro h; cases h)
  have isglo : ∀ {x : Str}, isGlob ((fdOf a).scope.names.lookup x) = true → (callEnv (fdOf a) s.heap.objs.size a).kindOf x = some .globalImplicit := fun {x} h => by
    show (fdOf a).scope.names.lookup x = _
    revert h
    cases (fdOf a).scope.names.lookup x with
    | none => intro h; cases h
    | some k => cases k <;> first | (intro _; rfl) | (intro h; cases h)
  have memc : ∀ {l : List Str} {x : Str}, l.contains x = true → x ∈ l := fun h => by simpa using h
  let s0 : Shared := { s with heap := h₀, toks := s.toks + (ps.zip vals ++ ex.map fun e => (e.1, e.2.1)).length }
  have G0 : Good c.w c.H none s σ s0 σ := .keep F.ok ⟨rfl, rfl, rfl⟩ hk
  have lookups : ∀ x av, (ps.zip as ++ ex.map fun e => (e.1, e.2.2)).lookup x = some av → ∃ v, (ps.zip vals ++ ex.map fun e => (e.1, e.2.1)).reverse.lookup x = some v ∧ VRel h₀ v av := fun x av e => by
    rw [lookup_rev (by rw [names]; exact k8)]
    exact lookup_zip (rs.mono (fun b o e _ => hk b o e) as) hl.symm (hx h₀) x av e
  have F0 : InFr (calleeFc c a s.heap.objs.size loc glo) (ps.zip as ++ ex.map fun e => (e.1, e.2.2)) [] (A.deeper (callEnv (fdOf a) s.heap.objs.size a)) (c.env :: outer) s0 σ := {
    base := ⟨F.base.says, F.base.g, F.base.b, F.base.bi, F.base.lim, F.base.free⟩
    handled := F.handled
    depth := by
      have h1 := F.depth
      have h2 : A.depth + 1 + 2 * (c.n - 1) + 2 ≤ 1000 := by (first | lia | omega)
      exact h2
    units := by
      have h1 := F.units
      have h2 : A.units + 3 + 20 * (c.n - 1) + 200 ≤ 9900 := by (first | lia | omega)
      exact h2
    frames := Around.frames_deeper F.frames
    kind := kind
    frame := rfl
    globals := K.glb
    builtins := K.blt
    stack := Heap.FunFrames.cons (by show (fdOf a).scope.kind ≠ _; rw [kind]; decide) rfl hns (none_at_end F.ok.stays) (funFrames_keep F.stack fun e he L hf o ho => ⟨o, hk _ _ ho, id⟩)
    apart := fun e he L hf => by
      rcases List.mem_cons.mp he with rfl | he
      · cases hf; exact F.ok.fresh
      · exact F.apart e he L hf
    ns := ⟨_, hns, lookups⟩
    known := fun x av e => by
      refine isloc (List.all_eq_true.mp k2 _ ?_)
      obtain ⟨v, e1, _⟩ := lookups x av e
      rw [← names]
      have : ∀ {l : List (Str × Value)}, l.lookup x = some v → x ∈ l.map (·.1) := by
        intro l
        induction l with
        | nil => intro e; cases e
        | cons p l ih =>
          obtain ⟨z, w⟩ := p
          intro e
          rw [List.lookup_cons] at e
          rw [List.map_cons]
          cases q : x == z with
          | true => rw [eq_of_beq q]; exact .head _
          | false => rw [q] at e; exact .tail _ (ih e)
      rw [lookup_rev (by rw [names]; exact k8)] at e1
      exact this e1
    locs := fun x h => isloc (List.all_eq_true.mp k3 _ (memc h))
    glos := fun x h => isglo (List.all_eq_true.mp k4 _ (memc h))
    ok := G0.ok
    pend := fun p hp => nomatch hp }
  have apart : ∀ b o, s.heap.get? b = some o → (some s.heap.objs.size : Option Addr) ≠ some b := fun b o e q => by
    cases q; exact absurd (Heap.lt_size e) (Nat.lt_irrefl _)
  refine (body _).go F0 (fun f fl ρ₁ s₁ σ₁ G F₁ r q => ?_) (fun e s₁ x => ?_)
  · have G1 : Good c.w c.H none s σ s₁ σ₁ := ⟨⟨G.rest.1, G.rest.2.1, G.rest.2.2⟩, G.ok, fun b o e n _ => G.evo b o (hk b o e) n (apart b o e), fun b o e n => G.old b o (hk b o e) n⟩
    obtain ⟨b, hb, q⟩ := q
    rcases hb with rfl | ⟨rfl, rfl⟩
    · cases f <;> first | exact r.elim | exact ⟨b, σ₁, G1, r, q⟩
    · cases f <;> first | exact r.elim | exact ⟨.none, σ₁, G1, rfl, q⟩
  · obtain ⟨σ₁, b, k⟩ := x
    obtain ⟨ea, rfl, w⟩ := b.exc
    have fin : ∀ h', s₁.heap.UpToSlots h' → (∃ a0, Heap.FlyingW c.H (c.env :: outer) ea (.ref 57) a0 h') → ExcPost c s σ outer X (.ref ea) { s₁ with heap := h' } := fun h' u ⟨a0, fl⟩ => by
      have b2 := b.slots (l' := some c.env.locals) (x' := .ref ea) (stack' := c.env :: outer) u ⟨ea, rfl, .flying fl⟩
      exact ⟨σ₁, ⟨b2.rest, b2.exc, b2.lists, fun x o e n _ f => b2.evo x o (hk x o e) n (apart x o e) f, fun x o e n => b2.old x o (hk x o e) n⟩, k⟩
    have frs : (A.deeper (callEnv (fdOf a) s.heap.objs.size a)).frames = some (callEnv (fdOf a) s.heap.objs.size a :: c.env :: outer) := F0.frames
    cases w with
    | new st n fr e1 cl d h0 h1 =>
      refine wpAny_leaving_firstW frs fr rfl e1 st n d h1 h0 fun h' hL => ?_
      obtain ⟨x1, ⟨_, _, x2⟩, x3, x4⟩ := hL
      rw [cl] at x3
      exact fin h' x4 ⟨_, x1, n, x2, x3⟩
    | flying fl => exact wpAny_leaves_onW frs rfl fl fun h' hf u => fin h' u ⟨_, hf⟩
    | held l hh =>
      cases l
      unfold leaving
      refine wpAny_bind (wpAny_noteFrame_againW rfl hh.2.2.2 (wpAny_landsW hh fun h' hfl u => ?_))
      obtain ⟨k1, k2, ⟨_, _, k3⟩, k4⟩ := hfl
      exact fin h' u ⟨_, k1, k2, k3, k4⟩
theorem call_def {a : Addr} {ps loc glo : List Str} {ex : List (Str × Value × AV)} (K : FnChk a (ps ++ ex.map (·.1)) loc glo) (B : Binds a ps ex) (hn : 1 ≤ c.n) {as : List AV} (hl : as.length = ps.length) (hx : ∀ (h : Heap) x av, (ex.map fun e => (e.1, e.2.2)).lookup x = some av → ∃ v, (ex.map fun e => (e.1, e.2.1)).lookup x = some v ∧ VRel h v av)
    (body : ∀ L, JS (calleeFc c a L loc glo) (ps.zip as ++ ex.map fun e => (e.1, e.2.2)) (bodyOf a) σ (fun fl _ σ' => ∃ b, (fl = .ret b ∨ (fl = .next ∧ b = .none)) ∧ Q b σ') X) : CallJ c ρ (.ref a) as σ Q X := (call_code K B hn hl hx body).call
end
end Mine

/-! # Text WP8 -/
open PySem PySem.W PyProof.Rows PySem.Calls
set_option Elab.async false
set_option maxRecDepth 10000
set_option linter.unusedVariables false
namespace Mine
/-! # Builtin calls -/
noncomputable def isBi : Value → Bool
  | .builtin _ => true
  | .type _ => true
  | _ => false
section
variable {c : Fc} {ρ : List (Str × AV)} {P : List (Value × AV)} {σ : Store} {X : Store → Prop}
theorem callWith_bi {f : Value} {first : List Value} {pre : List AV} {pos : Pos} {args : List Expr} {Q : AV → Store → Prop} {A : Around} {outer : List Env} {s : Shared} (hf : isBi f = true) (F : InFr c ρ P A outer s σ) (hp : VRels s.heap first pre)
    (h : Evs c ρ P pos args σ (fun as σ₁ => CallJ c ρ f (pre ++ as) σ₁ Q X) X) (hs : (!args.isEmpty && args.all notStar) = true) :
    wpAny (model pw c.w) A (callWith pos f first (backTo pos (starEach args c.env)) []) (fun v s' => ∃ b σ', Good c.w c.H none s σ s' σ' ∧ VRel s'.heap v b ∧ Q b σ') (ExcPost c s σ outer X) s := by
  have fin : ∀ vs as s₁ σ₁, Good c.w c.H none s σ s₁ σ₁ → RVs args.length s₁.heap vs as → CallJ c ρ f (pre ++ as) σ₁ Q X →
      wpAny (model pw c.w) A (call f (first ++ vs)) (fun v s' => ∃ b σ', Good c.w c.H none s σ s' σ' ∧ VRel s'.heap v b ∧ Q b σ') (ExcPost c s σ outer X) s₁ := fun vs as s₁ σ₁ G rs k =>
    wpAny_mono (k A outer s₁ (first ++ vs) (F.bare.step G fun p hp => nomatch hp) ((hp.mono (fun a o e t => G.evo a o e (F.ok.tuple e t) fun q => nomatch q) pre).append rs.1))
      (fun v s₂ ⟨b, σ₂, G₂, r₂, q⟩ => ⟨b, σ₂, G.trans G₂ noneK, r₂, q⟩) (ExcPost.up G)
  cases args with
  | nil => cases hs
  | cons e es =>
    have hs : ((e :: es).all notStar) = true := hs
    rw [List.all_cons, Bool.and_eq_true] at hs
    have hany : (backTo pos (starEach (e :: es) c.env)).any (·.1) = false := star_any (by rw [List.all_cons, hs.1, hs.2]; rfl)
    have ev : wpAny (model pw c.w) A (evalArgs f true (backTo pos (starEach (e :: es) c.env)) []) (fun a s₁ => wpAny (model pw c.w) A (call f (first ++ a.pos) a.kw) (fun v s' => ∃ b σ', Good c.w c.H none s σ s' σ' ∧ VRel s'.heap v b ∧ Q b σ') (ExcPost c s σ outer X) s₁) (ExcPost c s σ outer X) s := by
      have h' := h.go (Q' := fun vs s₁ => wpAny (model pw c.w) A (call f (first ++ vs)) (fun v s' => ∃ b σ', Good c.w c.H none s σ s' σ' ∧ VRel s'.heap v b ∧ Q b σ') (ExcPost c s σ outer X) s₁) F (fun vs as s₁ σ₁ G rs k => fin vs as s₁ σ₁ G rs k) (fun _ _ x => x)
      rw [starEach_cons' hs.1] at h' ⊢
      exact evalArgs_plain h'
    cases f with
    | builtin id => exact Calls.callWith_builtin hany ev
    | type T => exact PySem.callWith_type hany ev
    | _ => cases hf
theorem E_callB {func : Expr} {args : List Expr} {pos : Pos} {Q : AV → Store → Prop} {f : Value} (hf : isBi f = true) (h : Ev c ρ P func σ (fun a σ₁ => a = .val f ∧ Evs c ρ P pos args σ₁ (fun as σ₂ => CallJ c ρ f as σ₂ Q X) X) X)
    (hs : (!args.isEmpty && args.all notStar) = true := by rfl)
    (he : eval (.Call func args [] pos) c.env = (do callWith pos (← eval func c.env) [] (backTo pos (starEach args c.env)) (backToKw pos (keywordEach [] c.env))) := by rfl) : Ev c ρ P (.Call func args [] pos) σ Q X := fun A outer s F =>
  Call_ (h.go F (fun v a s₁ σ₁ G r ⟨e, k⟩ => by
    subst e
    obtain rfl : v = f := r
    exact wpAny_mono (callWith_bi (pre := []) hf (F.step G fun p hp => .inl hp) rfl k hs) (fun v s₂ ⟨b, σ₂, G₂, r₂, q⟩ => ⟨b, σ₂, G.trans G₂ noneK, r₂, q⟩) (ExcPost.up G)) fun _ _ x => x) he
/-- a builtin that lets the heap grow at most -/
theorem CallJ.grow {f : Value} {as : List AV} {r : AV} {Q : AV → Store → Prop} (h : ∀ A outer s vals, InFr c ρ [] A outer s σ → VRels s.heap vals as → ∀ (Q' : Value → Shared → Prop) (E' : Value → Shared → Prop),
    (∀ v h' tk, (∀ b o, s.heap.get? b = some o → h'.get? b = some o) → VRel h' v r → Q' v { s with heap := h', toks := tk }) → wpAny (model pw c.w) A (call f vals) Q' E' s) (q : Q r σ) : CallJ c ρ f as σ Q X := fun A outer s vals F rs =>
  h A outer s vals F rs _ _ fun v h' tk k r' => ⟨r, σ, .keep F.ok ⟨rfl, rfl, rfl⟩ k, r', q⟩
theorem vrels1 {h : Heap} {vs : List Value} {a : AV} (r : VRels h vs [a]) : ∃ v, vs = [v] ∧ VRel h v a := by
  obtain ⟨v, _, rfl, r, rfl⟩ := r; exact ⟨v, rfl, r⟩
theorem vrels2 {h : Heap} {vs : List Value} {a b : AV} (r : VRels h vs [a, b]) : ∃ v u, vs = [v, u] ∧ VRel h v a ∧ VRel h u b := by
  obtain ⟨v, _, rfl, r, u, _, rfl, r2, rfl⟩ := r; exact ⟨v, u, rfl, r, r2⟩
theorem call_lenS {x : Str} {Q : AV → Store → Prop} (hx : (x.length : Int) < 2 ^ 63) (q : Q (.int x.length) σ) : CallJ c ρ (.builtin "len") [.str x] σ Q X := CallJ.grow (r := .int x.length) (fun A outer s vals F rs Q' E' k => by
  obtain ⟨v, rfl, t, rfl⟩ := vrels1 rs
  exact len_str (by (first | lia | omega)) (k _ _ _ (fun _ _ e => e) ⟨_, rfl⟩)) q
theorem call_lenL {a : Addr} {as : List AV} {Q : AV → Store → Prop} (sa : σ a = some (.list as)) (hx : (as.length : Int) < 2 ^ 63) (q : Q (.int as.length) σ) : CallJ c ρ (.builtin "len") [.loc a] σ Q X := CallJ.grow (r := .int as.length) (fun A outer s vals F rs Q' E' k => by
  obtain ⟨v, rfl, r⟩ := vrels1 rs
  obtain rfl : v = .ref a := r
  obtain ⟨o, n, vs, g, cl, _, d, rs⟩ := cell_at F sa
  have T : s.heap.IsList a vs.toArray := ⟨o, g, cl, n, d⟩
  refine call_len_list T (by rw [List.size_toArray, rs.length]; exact hx) ?_
  rw [show vs.toArray.size = as.length by rw [List.size_toArray, rs.length]]
  exact k _ _ _ (fun _ _ e => e) ⟨_, rfl⟩) q
theorem call_min2 {i j : Int} {Q : AV → Store → Prop} (q : Q (.int (if j < i then j else i)) σ) : CallJ c ρ (.builtin "min") [.int i, .int j] σ Q X := CallJ.grow (r := .int (if j < i then j else i)) (fun A outer s vals F rs Q' E' k => by
  obtain ⟨v, u, rfl, ⟨t, rfl⟩, t2, rfl⟩ := vrels2 rs
  refine min_two_ints F.handled fun h' tk hk => k _ _ _ hk ?_
  split
  · exact ⟨_, rfl⟩
  · exact ⟨_, rfl⟩) q
theorem call_max2 {i j : Int} {Q : AV → Store → Prop} (q : Q (.int (if j > i then j else i)) σ) : CallJ c ρ (.builtin "max") [.int i, .int j] σ Q X := CallJ.grow (r := .int (if j > i then j else i)) (fun A outer s vals F rs Q' E' k => by
  obtain ⟨v, u, rfl, ⟨t, rfl⟩, t2, rfl⟩ := vrels2 rs
  refine max_two_ints F.handled fun h' tk hk => k _ _ _ hk ?_
  split
  · exact ⟨_, rfl⟩
  · exact ⟨_, rfl⟩) q
theorem call_intI {i : Int} {Q : AV → Store → Prop} (q : Q (.int i) σ) : CallJ c ρ (.type "int") [.int i] σ Q X := CallJ.grow (r := .int i) (fun A outer s vals F rs Q' E' k => by
  obtain ⟨v, rfl, t, rfl⟩ := vrels1 rs
  exact call_int_int (k _ _ _ (fun _ _ e => e) ⟨_, rfl⟩)) q
theorem call_intB {b : Bool} {Q : AV → Store → Prop} (q : Q (.int (if b then 1 else 0)) σ) : CallJ c ρ (.type "int") [.bool b] σ Q X := CallJ.grow (r := .int (if b then 1 else 0)) (fun A outer s vals F rs Q' E' k => by
  obtain ⟨v, rfl, r⟩ := vrels1 rs
  obtain rfl : v = .bool b := r
  exact call_int_bool (k _ _ _ (fun _ _ e => e) ⟨_, rfl⟩)) q
theorem call_tupL {a : Addr} {as : List AV} {Q : AV → Store → Prop} (sa : σ a = some (.list as)) (hx : as.length ≤ sizeLine) (q : Q (.tup as) σ) : CallJ c ρ (.type "tuple") [.loc a] σ Q X := CallJ.grow (r := .tup as) (fun A outer s vals F rs Q' E' k => by
  obtain ⟨v, rfl, r⟩ := vrels1 rs
  obtain rfl : v = .ref a := r
  obtain ⟨o, n, vs, g, cl, _, d, rs⟩ := cell_at F sa
  have T : s.heap.IsList a vs.toArray := ⟨o, g, cl, n, d⟩
  refine call_tuple_list T (fun h' hk => ?_) (by rw [List.size_toArray, rs.length]; exact hx)
  exact k _ _ s.toks (fun b o e => push_keep b o (hk b o e)) ⟨_, _, _, vs, rfl, Heap.get?_push_size _ rfl, rfl, rfl, rs.mono (fun b o e _ => push_keep b o (hk b o e)) as⟩) q
theorem call_listL {a : Addr} {as : List AV} {Q : AV → Store → Prop} (sa : σ a = some (.list as)) (hx : as.length ≤ sizeLine) (q : ∀ b, σ b = none → Q (.loc b) (σ.set b (.list as))) : CallJ c ρ (.type "list") [.loc a] σ Q X := fun A outer s vals F rs => by
  obtain ⟨v, rfl, r⟩ := vrels1 rs
  obtain rfl : v = .ref a := r
  obtain ⟨o, n, vs, g, cl, dn, d, rs⟩ := cell_at F sa
  refine call_list_seq a (.inl rfl) g cl d (fun h' c' hk hn => ?_) (by rw [List.size_toArray, rs.length]; exact hx)
  refine ⟨.loc s.heap.objs.size, _, .alloc (s' := { s with heap := h' }) F.ok ⟨rfl, rfl, rfl⟩ hk (get_end _) (none_at_end F.ok.stays) (cl := .list as) ⟨_, c', vs, hn, rfl, rfl, rfl, rs.mono (fun b o e _ => hk b o e) as⟩ (fun _ _ _ q => nomatch q), rfl, q _ F.ok.fresh⟩
/-! ## An object changes -/
theorem Good.put {w : World} {H : Heap} {s s' : Shared} {σ : Store} {D : Addr} {cl cl' : Cell} (ok : HeapOK w H s.heap σ) (r : s'.gens = s.gens ∧ s'.drawn = s.drawn ∧ s'.os = s.os) (k : ∀ b o, b ≠ D → s.heap.get? b = some o → s'.heap.get? b = some o)
    (e : σ D = some cl) (hn : ∀ z, cl ≠ .own z) (hc : CellRel w s'.heap D cl') (hi : ∀ C d es, cl' ≠ .inst C d es) : Good w H none s σ s' (σ.set D cl') := by
  have hT : ∀ b o, b = D → s.heap.get? b = some o → ¬ Tup o := fun b o q e' => by subst q; exact (ok.cells _ _ e).1.notTuple e'
  have ownD : ∀ d z, σ d = some (.own z) → d ≠ D := fun d z q q2 => by subst q2; rw [e] at q; cases q; exact hn _ rfl
  refine ⟨r, ⟨fun b o q => k b o (fun q2 => by subst q2; rw [(ok.cells _ _ e).2] at q; cases q) (ok.stays b o q), fun b d q => ?_, fun b C d es q => ?_⟩, fun b o q n _ => k b o (fun q2 => by subst q2; rw [e] at n; cases n) q, fun b o q n => ?_⟩
  · by_cases q2 : b = D
    · subst q2; rw [Store.set_same] at q; cases q; exact ⟨hc, (ok.cells _ _ e).2⟩
    · rw [Store.set_ne q2] at q
      exact ⟨(ok.cells b d q).1.but (D := fun b => b = D) (fun b o nb => k b o nb) hT q2 (fun C d' es q3 => by subst q3; exact ownD _ _ (ok.own _ _ _ _ q)), (ok.cells b d q).2⟩
  · by_cases q2 : b = D
    · subst q2; rw [Store.set_same] at q; cases q; exact absurd rfl (hi _ _ _)
    · rw [Store.set_ne q2] at q
      have := ok.own _ _ _ _ q
      rw [Store.set_ne (ownD _ _ this)]; exact this
  · rw [Store.set_ne fun q2 => by subst q2; rw [e] at n; cases n]; exact n
/-- `x.append(e)` -/
theorem E_append {o elt : Expr} {apos pos : Pos} {Q : AV → Store → Prop}
    (hbase : attributeBase o "append" c.env (eval o c.env) = eval o c.env)
    (hfew : ((backTo pos (starEach [elt] c.env)).all (fun x => !x.1) && (backToKw pos (keywordEach [] c.env)).all (fun x => x.1.isSome)
      && decide (([elt] : List Expr).length + ([] : List Keyword).length + (if ([] : List Keyword).isEmpty then 0 else 1) < 30)) = true)
    (hline : (apos.endLine == pos.line) = true)
    (htrees : backTo pos (starEach [elt] c.env) = [(false, eval elt c.env)])
    (h : Ev c ρ P o σ (fun a σ₁ => ∃ D as₀, a = .loc D ∧ σ₁ D = some (.list as₀) ∧ Ev c ρ P elt σ₁ (fun b σ₂ => ∃ as, σ₂ D = some (.list as) ∧ as.length ≤ sizeLine ∧ Q .none (σ₂.set D (.list (as ++ [b])))) X) X) :
    Ev c ρ P (.Call (.Attribute o "append" apos) [elt] [] pos) σ Q X := fun A outer s F =>
  wpAny_Call_append hbase hfew hline htrees (h.go F (fun v a s₁ σ₁ G r ⟨D, as₀, e, sD, k⟩ => by
    subst e
    obtain rfl : v = .ref D := r
    have F₁ := F.step G (P' := P) fun p hp => .inl hp
    obtain ⟨o, n, vs, g, cl, dn, d, rs⟩ := cell_at F₁ sD
    refine ⟨D, vs.toArray, rfl, ⟨o, n, g, cl, dn, d⟩, k.go F₁ (fun y b s₂ σ₂ G₂ r₂ ⟨as, sD₂, hx, q⟩ => ?_) (ExcPost.up G)⟩
    have F₂ := F₁.step G₂ (P' := P) fun p hp => .inl hp
    obtain ⟨o, n, vs, g, cl, dn, d, rs⟩ := cell_at F₂ sD₂
    refine list_append_plainL (its := vs.toArray) ⟨o, n, g, cl, dn, d⟩ (fun h' pl hs => ?_) (by rw [List.size_toArray, rs.length]; exact hx)
    obtain ⟨o', n', g', cl', dn', d'⟩ := pl
    have hT : ∀ b o, s₂.heap.get? b = some o → Tup o → h'.get? b = some o := fun b o e t => (hs.2 b fun q => by subst q; exact (F₂.ok.cells _ _ sD₂).1.notTuple e t).trans e
    refine ⟨.none, _, (G.trans G₂ noneK).trans (Good.put (s' := { s₂ with heap := h' }) (cl' := .list (as ++ [b])) F₂.ok ⟨rfl, rfl, rfl⟩ (fun b o nb e => (hs.2 b nb).trans e) sD₂ (fun _ q => nomatch q) ?_ (fun _ _ _ q => nomatch q)) noneK, rfl, q⟩
    exact ⟨o', n', vs ++ [y], g', cl', dn', by rw [d']; simp, (rs.mono hT as).append ⟨y, [], rfl, r₂.mono hT b, rfl⟩⟩) fun _ _ x => x)
/-! ## Methods of a Words object -/
theorem fnAt_keep {f : Addr} (hF : FnAt f) : keepIn (KO c.w.params) (.ref f) = true := hF.keep _
theorem E_meth {o : Expr} {name : Str} {apos pos : Pos} {args : List Expr} {Q : AV → Store → Prop} {f : Addr} (hM : MethAt name f)
    (hbase : attributeBase o name c.env (eval o c.env) = eval o c.env) (hline : (apos.endLine == pos.line) = true)
    (hform : methodCallForm (args.length + ([] : List Keyword).length) (backTo pos (starEach args c.env)) (backToKw pos (keywordEach [] c.env)) = true) (hs : (!args.isEmpty && args.all notStar) = true)
    (h : Ev c ρ P o σ (fun a σ₁ => ∃ x d es, a = .loc x ∧ σ₁ x = some (.inst 193 d es) ∧ es.lookup name = none ∧ Evs c ρ P pos args σ₁ (fun as σ₂ => CallJ c ρ (.ref f) (.loc x :: as) σ₂ Q X) X) X) :
    Ev c ρ P (.Call (.Attribute o name apos) args [] pos) σ Q X :=
  E_meth_gen hM hbase hline hform (h.mono (fun a σ₁ ⟨x, d, es, e, sx, hl, k⟩ => ⟨x, d, es, e, sx, hl, fun A outer s F => callWith_args (first := [.ref x]) (pre := [.loc x]) (fnAt_keep hM.fn) F ⟨_, _, rfl, rfl, rfl⟩ k hs⟩) fun _ x => x)
theorem E_meth0 {o : Expr} {name : Str} {apos pos : Pos} {Q : AV → Store → Prop} {f : Addr} (hM : MethAt name f)
    (hbase : attributeBase o name c.env (eval o c.env) = eval o c.env) (hline : (apos.endLine == pos.line) = true)
    (h : Ev c ρ P o σ (fun a σ₁ => ∃ x d es, a = .loc x ∧ σ₁ x = some (.inst 193 d es) ∧ es.lookup name = none ∧ CallJ c ρ (.ref f) [.loc x] σ₁ Q X) X) :
    Ev c ρ P (.Call (.Attribute o name apos) [] [] pos) σ Q X :=
  E_meth_gen hM hbase hline rfl (h.mono (fun a σ₁ ⟨x, d, es, e, sx, hl, k⟩ => ⟨x, d, es, e, sx, hl, fun A outer s F => callWith_args0 (first := [.ref x]) (pre := [.loc x]) (fnAt_keep hM.fn) F ⟨_, _, rfl, rfl, rfl⟩ k⟩) fun _ x => x)
end
end Mine

/-! # Text WP9 -/
open PySem PySem.W PyProof.Rows PySem.Calls
set_option Elab.async false
set_option maxRecDepth 10000
set_option linter.unusedVariables false
namespace Mine
noncomputable abbrev Lv (l : List (Str × AV)) : List (Str × AV) := l
noncomputable def gval (x : Str) : Option Value := (globRows.find? fun g => str g.1 == x).map (·.2)
theorem gval_mem {x : Str} {u : Value} (h : gval x = some u) : ∃ g ∈ globRows, str g.1 = x ∧ g.2 = u := by
  unfold gval at h
  obtain ⟨g, e, rfl⟩ := Option.map_eq_some_iff.mp h
  have e2 := List.find?_some (p := fun g : String × Value => str g.1 == x) e
  exact ⟨g, List.mem_of_find?_eq_some e, eq_of_beq e2, rfl⟩
section
variable {c : Fc} {ρ : List (Str × AV)} {P : List (Value × AV)} {σ : Store} {Q : AV → Store → Prop} {X : Store → Prop}
theorem glob_is (b : Base c) {x : Str} {u : Value} (h : gval x = some u) : c.mg x = some u := by
  obtain ⟨g, hg, rfl, rfl⟩ := gval_mem h
  exact ns_of_nsMap b.g (b.says.glob g hg)
theorem E_gl {x : Str} {pos : Pos} {u : Value} {v : AV} (hk : c.glo.contains x = true) (hg : gval x = some u) (r : ∀ P h, (KO P).In h → VRel h u v) (q : Q v σ) (hd : (x == ("__debug__" : Str)) = false := by decide) : Ev c ρ P (.Name x pos) σ Q X :=
  E_glb hk (fun b => ⟨glob_is b hg, r _ _ b.says.objs⟩) q hd
/-- a def or a class of the text, by its name -/
theorem E_gf {x : Str} {pos : Pos} {f : Addr} (hk : c.glo.contains x = true) (hg : gval x = some (.ref f)) (q : Q (.val (.ref f)) σ) (hd : (x == ("__debug__" : Str)) = false := by decide) : Ev c ρ P (.Name x pos) σ Q X :=
  E_gl (v := .val (.ref f)) hk hg (fun _ _ _ => rfl) q hd
theorem call_def0 {a : Addr} {ps loc glo : List Str} (K : FnChk a ps loc glo) (B : Binds a ps []) (hn : 1 ≤ c.n) {as : List AV} {ρ₀ : List (Str × AV)} (he : ps.zip as = ρ₀ ∧ as.length = ps.length)
    (body : ∀ L, JS (calleeFc c a L loc glo) ρ₀ (bodyOf a) σ (fun fl _ σ' => ∃ b, (fl = .ret b ∨ (fl = .next ∧ b = .none)) ∧ Q b σ') X) : CallJ c ρ (.ref a) as σ Q X := by
  obtain ⟨rfl, hl⟩ := he
  refine call_def (ex := []) (by simpa using K) B hn hl (fun h x av e => by cases e) fun L => ?_
  simpa using body L
theorem call_def1 {a : Addr} {ps loc glo : List Str} {y : Str} {u : Value} {d : AV} (K : FnChk a (ps ++ [y]) loc glo) (B : Binds a ps [(y, u, d)]) (hd : ∀ h, VRel h u d) (hn : 1 ≤ c.n) {as : List AV} {ρ₀ : List (Str × AV)} (he : ps.zip as ++ [(y, d)] = ρ₀ ∧ as.length = ps.length)
    (body : ∀ L, JS (calleeFc c a L loc glo) ρ₀ (bodyOf a) σ (fun fl _ σ' => ∃ b, (fl = .ret b ∨ (fl = .next ∧ b = .none)) ∧ Q b σ') X) : CallJ c ρ (.ref a) as σ Q X := by
  obtain ⟨rfl, hl⟩ := he
  refine call_def (ex := [(y, u, d)]) K B hn hl (fun h x av e => ?_) fun L => body L
  simp only [List.map_cons, List.map_nil, List.lookup_cons, List.lookup_nil] at e ⊢
  cases q : x == y with
  | true => rw [q] at e; cases e; exact ⟨u, rfl, hd h⟩
  | false => rw [q] at e; cases e
theorem call_def_eq {a : Addr} {as bs : List AV} (e : as = bs) (h : CallJ c ρ (.ref a) as σ Q X) : CallJ c ρ (.ref a) bs σ Q X := e ▸ h
end
theorem def_tup (T : Addr) {items : Array Value} {s : Shared} {P : Params} (X : (KO P).In s.heap) (h : (KO P).lookup T = some { cls := .type "tuple", data := .seq items 0 }) : ∃ o, s.heap.get? T = some o ∧ o.data = .seq items 0 := ⟨_, X _ _ h, rfl⟩
end Mine

/-! # Text WF -/
open PySem PySem.W PyProof.Rows PySem.Calls
set_option Elab.async false
set_option maxRecDepth 10000
set_option linter.unusedVariables false
namespace Mine
/-! # The defs of the text: facts -/
theorem f_run_end : FnAt 69 := ⟨fun _ => by kernel_rfl, fun _ => by kernel_rfl, mem_find (p := fun r => Nat.beq r.addr 69) (by kernel_rfl)⟩
theorem c_run_end : FnChk 69 ["text", "at", "signs"] ["text", "at", "signs"] ["len"] := ⟨f_run_end, by kernel_rfl, by kernel_rfl, by kernel_rfl, by kernel_rfl, by kernel_rfl, by kernel_rfl, by kernel_rfl⟩
theorem b_run_end : Binds 69 ["text", "at", "signs"] [] := by
  apply binds3 rfl
  intro _ _ _
  kernel_rfl
theorem f_blank_end : FnAt 83 := ⟨fun _ => by kernel_rfl, fun _ => by kernel_rfl, mem_find (p := fun r => Nat.beq r.addr 83) (by kernel_rfl)⟩
theorem c_blank_end : FnChk 83 ["text", "at"] ["text", "at", "end"] ["len", "BLANKS", "run_end", "remark_end"] := ⟨f_blank_end, by kernel_rfl, by kernel_rfl, by kernel_rfl, by kernel_rfl, by kernel_rfl, by kernel_rfl, by kernel_rfl⟩
theorem b_blank_end : Binds 83 ["text", "at"] [] := by
  apply binds2 rfl
  intro _ _
  kernel_rfl
theorem f_read_sign : FnAt 111 := ⟨fun _ => by kernel_rfl, fun _ => by kernel_rfl, mem_find (p := fun r => Nat.beq r.addr 111) (by kernel_rfl)⟩
theorem c_read_sign : FnChk 111 ["text", "at"] ["text", "at", "sign"] ["SIGNS", "len", "WordFault"] := ⟨f_read_sign, by kernel_rfl, by kernel_rfl, by kernel_rfl, by kernel_rfl, by kernel_rfl, by kernel_rfl, by kernel_rfl⟩
theorem b_read_sign : Binds 111 ["text", "at"] [] := by
  apply binds2 rfl
  intro _ _
  kernel_rfl
theorem f_read_word : FnAt 118 := ⟨fun _ => by kernel_rfl, fun _ => by kernel_rfl, mem_find (p := fun r => Nat.beq r.addr 118) (by kernel_rfl)⟩
theorem c_read_word : FnChk 118 ["text", "at"] ["text", "at", "end"] ["NAME_BEGINS", "run_end", "NAME_SIGNS", "FIGURES", "read_int", "WordFault", "read_sign"] := ⟨f_read_word, by kernel_rfl, by kernel_rfl, by kernel_rfl, by kernel_rfl, by kernel_rfl, by kernel_rfl, by kernel_rfl⟩
theorem b_read_word : Binds 118 ["text", "at"] [] := by
  apply binds2 rfl
  intro _ _
  kernel_rfl
theorem f_word_rows : FnAt 125 := ⟨fun _ => by kernel_rfl, fun _ => by kernel_rfl, mem_find (p := fun r => Nat.beq r.addr 125) (by kernel_rfl)⟩
theorem c_word_rows : FnChk 125 ["text"] ["text", "found", "at", "word"] ["blank_end", "len", "read_word"] := ⟨f_word_rows, by kernel_rfl, by kernel_rfl, by kernel_rfl, by kernel_rfl, by kernel_rfl, by kernel_rfl, by kernel_rfl⟩
theorem b_word_rows : Binds 125 ["text"] [] := by
  apply binds1 rfl
  intro _
  kernel_rfl
theorem f_read_words : FnAt 132 := ⟨fun _ => by kernel_rfl, fun _ => by kernel_rfl, mem_find (p := fun r => Nat.beq r.addr 132) (by kernel_rfl)⟩
theorem c_read_words : FnChk 132 ["text"] ["text"] ["Words", "word_rows"] := ⟨f_read_words, by kernel_rfl, by kernel_rfl, by kernel_rfl, by kernel_rfl, by kernel_rfl, by kernel_rfl, by kernel_rfl⟩
theorem b_read_words : Binds 132 ["text"] [] := by
  apply binds1 rfl
  intro _
  kernel_rfl
theorem f_read_type : FnAt 205 := ⟨fun _ => by kernel_rfl, fun _ => by kernel_rfl, mem_find (p := fun r => Nat.beq r.addr 205) (by kernel_rfl)⟩
theorem c_read_type : FnChk 205 ["words"] ["words", "word", "spot"] ["read_paren_type", "read_ref_type", "read_array_type", "read_spath"] := ⟨f_read_type, by kernel_rfl, by kernel_rfl, by kernel_rfl, by kernel_rfl, by kernel_rfl, by kernel_rfl, by kernel_rfl⟩
theorem b_read_type : Binds 205 ["words"] [] := by
  apply binds1 rfl
  intro _
  kernel_rfl
theorem f_read_paren_type : FnAt 212 := ⟨fun _ => by kernel_rfl, fun _ => by kernel_rfl, mem_find (p := fun r => Nat.beq r.addr 212) (by kernel_rfl)⟩
theorem c_read_paren_type : FnChk 212 ["words"] ["words", "spot", "found", "is_tuple"] ["read_type", "len", "tuple"] := ⟨f_read_paren_type, by kernel_rfl, by kernel_rfl, by kernel_rfl, by kernel_rfl, by kernel_rfl, by kernel_rfl, by kernel_rfl⟩
theorem b_read_paren_type : Binds 212 ["words"] [] := by
  apply binds1 rfl
  intro _
  kernel_rfl
theorem f_read_spath : FnAt 232 := ⟨fun _ => by kernel_rfl, fun _ => by kernel_rfl, mem_find (p := fun r => Nat.beq r.addr 232) (by kernel_rfl)⟩
theorem c_read_spath : FnChk 232 ["words", "is_expr"] ["words", "is_expr", "found"] ["read_segment", "tuple"] := ⟨f_read_spath, by kernel_rfl, by kernel_rfl, by kernel_rfl, by kernel_rfl, by kernel_rfl, by kernel_rfl, by kernel_rfl⟩
theorem b_read_spath : Binds 232 ["words", "is_expr"] [] := fun P s vals X hl => by
  obtain ⟨v, u, rfl⟩ := len2 hl
  exact .of_defaults (T := 227) (items := #[.bool false]) (n := 0) (by kernel_rfl) (X _ _ (by kernel_rfl : (KO P).lookup 227 = some { cls := .type "tuple", data := .seq #[.bool false] 0 })) rfl rfl rfl
theorem d_read_spath : Binds 232 ["words"] [("is_expr", .bool false, .bool false)] := fun P s vals X hl => by
  obtain ⟨v, rfl⟩ := len1 hl
  exact .of_defaults (T := 227) (items := #[.bool false]) (n := 0) (by kernel_rfl) (X _ _ (by kernel_rfl : (KO P).lookup 227 = some { cls := .type "tuple", data := .seq #[.bool false] 0 })) rfl rfl rfl
theorem f_read_segment : FnAt 239 := ⟨fun _ => by kernel_rfl, fun _ => by kernel_rfl, mem_find (p := fun r => Nat.beq r.addr 239) (by kernel_rfl)⟩
theorem c_read_segment : FnChk 239 ["words", "ahead", "is_expr"] ["words", "ahead", "is_expr", "name"] ["read_path_name", "read_arguments"] := ⟨f_read_segment, by kernel_rfl, by kernel_rfl, by kernel_rfl, by kernel_rfl, by kernel_rfl, by kernel_rfl, by kernel_rfl⟩
theorem b_read_segment : Binds 239 ["words", "ahead", "is_expr"] [] := by
  apply binds3 rfl
  intro _ _ _
  kernel_rfl
theorem f_read_path_name : FnAt 246 := ⟨fun _ => by kernel_rfl, fun _ => by kernel_rfl, mem_find (p := fun r => Nat.beq r.addr 246) (by kernel_rfl)⟩
theorem c_read_path_name : FnChk 246 ["words", "ahead"] ["words", "ahead", "word"] ["PATH_WORDS", "GrammarFault"] := ⟨f_read_path_name, by kernel_rfl, by kernel_rfl, by kernel_rfl, by kernel_rfl, by kernel_rfl, by kernel_rfl, by kernel_rfl⟩
theorem b_read_path_name : Binds 246 ["words", "ahead"] [] := by
  apply binds2 rfl
  intro _ _
  kernel_rfl
theorem f_read_expr : FnAt 364 := ⟨fun _ => by kernel_rfl, fun _ => by kernel_rfl, mem_find (p := fun r => Nat.beq r.addr 364) (by kernel_rfl)⟩
theorem c_read_expr : FnChk 364 ["words", "no_struct"] ["words", "no_struct", "left", "word"] ["read_binary", "read_expr", "UPDATES"] := ⟨f_read_expr, by kernel_rfl, by kernel_rfl, by kernel_rfl, by kernel_rfl, by kernel_rfl, by kernel_rfl, by kernel_rfl⟩
theorem b_read_expr : Binds 364 ["words", "no_struct"] [] := fun P s vals X hl => by
  obtain ⟨v, u, rfl⟩ := len2 hl
  exact .of_defaults (T := 357) (items := #[.bool false]) (n := 0) (by kernel_rfl) (X _ _ (by kernel_rfl : (KO P).lookup 357 = some { cls := .type "tuple", data := .seq #[.bool false] 0 })) rfl rfl rfl
theorem d_read_expr : Binds 364 ["words"] [("no_struct", .bool false, .bool false)] := fun P s vals X hl => by
  obtain ⟨v, rfl⟩ := len1 hl
  exact .of_defaults (T := 357) (items := #[.bool false]) (n := 0) (by kernel_rfl) (X _ _ (by kernel_rfl : (KO P).lookup 357 = some { cls := .type "tuple", data := .seq #[.bool false] 0 })) rfl rfl rfl
theorem f_level_of : FnAt 371 := ⟨fun _ => by kernel_rfl, fun _ => by kernel_rfl, mem_find (p := fun r => Nat.beq r.addr 371) (by kernel_rfl)⟩
theorem c_level_of : FnChk 371 ["word"] ["word"] ["LEVELS"] := ⟨f_level_of, by kernel_rfl, by kernel_rfl, by kernel_rfl, by kernel_rfl, by kernel_rfl, by kernel_rfl, by kernel_rfl⟩
theorem b_level_of : Binds 371 ["word"] [] := by
  apply binds1 rfl
  intro _
  kernel_rfl
theorem f_read_binary : FnAt 378 := ⟨fun _ => by kernel_rfl, fun _ => by kernel_rfl, mem_find (p := fun r => Nat.beq r.addr 378) (by kernel_rfl)⟩
theorem c_read_binary : FnChk 378 ["words", "least", "no_struct"] ["words", "least", "no_struct"] ["read_behind", "read_cast"] := ⟨f_read_binary, by kernel_rfl, by kernel_rfl, by kernel_rfl, by kernel_rfl, by kernel_rfl, by kernel_rfl, by kernel_rfl⟩
theorem b_read_binary : Binds 378 ["words", "least", "no_struct"] [] := by
  apply binds3 rfl
  intro _ _ _
  kernel_rfl
theorem f_read_behind : FnAt 385 := ⟨fun _ => by kernel_rfl, fun _ => by kernel_rfl, mem_find (p := fun r => Nat.beq r.addr 385) (by kernel_rfl)⟩
theorem c_read_behind : FnChk 385 ["words", "left", "least", "no_struct"] ["words", "left", "least", "no_struct", "is_compared", "word", "level", "right"] ["level_of", "COMPARED", "GrammarFault", "read_binary"] := ⟨f_read_behind, by kernel_rfl, by kernel_rfl, by kernel_rfl, by kernel_rfl, by kernel_rfl, by kernel_rfl, by kernel_rfl⟩
theorem b_read_behind : Binds 385 ["words", "left", "least", "no_struct"] [] := by
  apply binds4 rfl
  intro _ _ _ _
  kernel_rfl
theorem f_read_cast : FnAt 392 := ⟨fun _ => by kernel_rfl, fun _ => by kernel_rfl, mem_find (p := fun r => Nat.beq r.addr 392) (by kernel_rfl)⟩
theorem c_read_cast : FnChk 392 ["words", "no_struct"] ["words", "no_struct"] ["cast_behind", "read_unary"] := ⟨f_read_cast, by kernel_rfl, by kernel_rfl, by kernel_rfl, by kernel_rfl, by kernel_rfl, by kernel_rfl, by kernel_rfl⟩
theorem b_read_cast : Binds 392 ["words", "no_struct"] [] := by
  apply binds2 rfl
  intro _ _
  kernel_rfl
theorem f_cast_behind : FnAt 399 := ⟨fun _ => by kernel_rfl, fun _ => by kernel_rfl, mem_find (p := fun r => Nat.beq r.addr 399) (by kernel_rfl)⟩
theorem c_cast_behind : FnChk 399 ["words", "left"] ["words", "left"] ["read_type"] := ⟨f_cast_behind, by kernel_rfl, by kernel_rfl, by kernel_rfl, by kernel_rfl, by kernel_rfl, by kernel_rfl, by kernel_rfl⟩
theorem b_cast_behind : Binds 399 ["words", "left"] [] := by
  apply binds2 rfl
  intro _ _
  kernel_rfl
theorem f_read_unary : FnAt 406 := ⟨fun _ => by kernel_rfl, fun _ => by kernel_rfl, mem_find (p := fun r => Nat.beq r.addr 406) (by kernel_rfl)⟩
theorem c_read_unary : FnChk 406 ["words", "no_struct"] ["words", "no_struct", "word", "inner"] ["read_unary", "read_borrow", "read_postfix", "read_primary"] := ⟨f_read_unary, by kernel_rfl, by kernel_rfl, by kernel_rfl, by kernel_rfl, by kernel_rfl, by kernel_rfl, by kernel_rfl⟩
theorem b_read_unary : Binds 406 ["words", "no_struct"] [] := by
  apply binds2 rfl
  intro _ _
  kernel_rfl
theorem f_read_borrow : FnAt 413 := ⟨fun _ => by kernel_rfl, fun _ => by kernel_rfl, mem_find (p := fun r => Nat.beq r.addr 413) (by kernel_rfl)⟩
theorem c_read_borrow : FnChk 413 ["words", "spot", "no_struct"] ["words", "spot", "no_struct", "is_mut"] ["read_unary"] := ⟨f_read_borrow, by kernel_rfl, by kernel_rfl, by kernel_rfl, by kernel_rfl, by kernel_rfl, by kernel_rfl, by kernel_rfl⟩
theorem b_read_borrow : Binds 413 ["words", "spot", "no_struct"] [] := by
  apply binds3 rfl
  intro _ _ _
  kernel_rfl
theorem f_read_postfix : FnAt 420 := ⟨fun _ => by kernel_rfl, fun _ => by kernel_rfl, mem_find (p := fun r => Nat.beq r.addr 420) (by kernel_rfl)⟩
theorem c_read_postfix : FnChk 420 ["words", "left"] ["words", "left", "index"] ["read_list", "read_expr", "read_member"] := ⟨f_read_postfix, by kernel_rfl, by kernel_rfl, by kernel_rfl, by kernel_rfl, by kernel_rfl, by kernel_rfl, by kernel_rfl⟩
theorem b_read_postfix : Binds 420 ["words", "left"] [] := by
  apply binds2 rfl
  intro _ _
  kernel_rfl
theorem f_read_member : FnAt 427 := ⟨fun _ => by kernel_rfl, fun _ => by kernel_rfl, mem_find (p := fun r => Nat.beq r.addr 427) (by kernel_rfl)⟩
theorem c_read_member : FnChk 427 ["words", "left"] ["words", "left", "word", "name", "spot", "types"] ["GrammarFault", "str", "read_types", "read_list"] := ⟨f_read_member, by kernel_rfl, by kernel_rfl, by kernel_rfl, by kernel_rfl, by kernel_rfl, by kernel_rfl, by kernel_rfl⟩
theorem b_read_member : Binds 427 ["words", "left"] [] := by
  apply binds2 rfl
  intro _ _
  kernel_rfl
theorem f_read_list : FnAt 448 := ⟨fun _ => by kernel_rfl, fun _ => by kernel_rfl, mem_find (p := fun r => Nat.beq r.addr 448) (by kernel_rfl)⟩
theorem c_read_list : FnChk 448 ["words", "begin", "end"] ["words", "begin", "end", "found"] ["read_expr", "tuple"] := ⟨f_read_list, by kernel_rfl, by kernel_rfl, by kernel_rfl, by kernel_rfl, by kernel_rfl, by kernel_rfl, by kernel_rfl⟩
theorem b_read_list : Binds 448 ["words", "begin", "end"] [] := by
  apply binds3 rfl
  intro _ _ _
  kernel_rfl
theorem f_is_block_like : FnAt 455 := ⟨fun _ => by kernel_rfl, fun _ => by kernel_rfl, mem_find (p := fun r => Nat.beq r.addr 455) (by kernel_rfl)⟩
theorem c_is_block_like : FnChk 455 ["words"] ["words", "word"] [] := ⟨f_is_block_like, by kernel_rfl, by kernel_rfl, by kernel_rfl, by kernel_rfl, by kernel_rfl, by kernel_rfl, by kernel_rfl⟩
theorem b_is_block_like : Binds 455 ["words"] [] := by
  apply binds1 rfl
  intro _
  kernel_rfl
theorem f_read_primary : FnAt 462 := ⟨fun _ => by kernel_rfl, fun _ => by kernel_rfl, mem_find (p := fun r => Nat.beq r.addr 462) (by kernel_rfl)⟩
theorem c_read_primary : FnChk 462 ["words", "no_struct"] ["words", "no_struct", "word"] ["is_block_like", "read_block_like", "read_paren", "read_array", "GrammarFault", "read_jump", "MACROS", "read_list", "read_path_like"] := ⟨f_read_primary, by kernel_rfl, by kernel_rfl, by kernel_rfl, by kernel_rfl, by kernel_rfl, by kernel_rfl, by kernel_rfl⟩
theorem b_read_primary : Binds 462 ["words", "no_struct"] [] := by
  apply binds2 rfl
  intro _ _
  kernel_rfl
theorem f_read_path_like : FnAt 469 := ⟨fun _ => by kernel_rfl, fun _ => by kernel_rfl, mem_find (p := fun r => Nat.beq r.addr 469) (by kernel_rfl)⟩
theorem c_read_path_like : FnChk 469 ["words", "no_struct"] ["words", "no_struct", "spot", "path", "found"] ["read_spath", "read_field_parse_exprs", "tuple"] := ⟨f_read_path_like, by kernel_rfl, by kernel_rfl, by kernel_rfl, by kernel_rfl, by kernel_rfl, by kernel_rfl, by kernel_rfl⟩
theorem b_read_path_like : Binds 469 ["words", "no_struct"] [] := by
  apply binds2 rfl
  intro _ _
  kernel_rfl
theorem f_read_paren : FnAt 483 := ⟨fun _ => by kernel_rfl, fun _ => by kernel_rfl, mem_find (p := fun r => Nat.beq r.addr 483) (by kernel_rfl)⟩
theorem c_read_paren : FnChk 483 ["words"] ["words", "spot", "found", "is_tuple"] ["read_expr", "len", "tuple"] := ⟨f_read_paren, by kernel_rfl, by kernel_rfl, by kernel_rfl, by kernel_rfl, by kernel_rfl, by kernel_rfl, by kernel_rfl⟩
theorem b_read_paren : Binds 483 ["words"] [] := by
  apply binds1 rfl
  intro _
  kernel_rfl
theorem f_law_pool : FnAt 581 := ⟨fun _ => by kernel_rfl, fun _ => by kernel_rfl, mem_find (p := fun r => Nat.beq r.addr 581) (by kernel_rfl)⟩
theorem c_law_pool : FnChk 581 ["script", "k"] ["script", "k", "cell", "big", "mixed"] ["len", "max", "int"] := ⟨f_law_pool, by kernel_rfl, by kernel_rfl, by kernel_rfl, by kernel_rfl, by kernel_rfl, by kernel_rfl, by kernel_rfl⟩
theorem b_law_pool : Binds 581 ["script", "k"] [] := by
  apply binds2 rfl
  intro _ _
  kernel_rfl
theorem f_law_take : FnAt 588 := ⟨fun _ => by kernel_rfl, fun _ => by kernel_rfl, mem_find (p := fun r => Nat.beq r.addr 588) (by kernel_rfl)⟩
theorem c_law_take : FnChk 588 ["source", "top"] ["source", "top", "drawn"] ["int"] := ⟨f_law_take, by kernel_rfl, by kernel_rfl, by kernel_rfl, by kernel_rfl, by kernel_rfl, by kernel_rfl, by kernel_rfl⟩
theorem b_law_take : Binds 588 ["source", "top"] [] := by
  apply binds2 rfl
  intro _ _
  kernel_rfl
theorem f_law_one : FnAt 595 := ⟨fun _ => by kernel_rfl, fun _ => by kernel_rfl, mem_find (p := fun r => Nat.beq r.addr 595) (by kernel_rfl)⟩
theorem c_law_one : FnChk 595 ["source", "things"] ["source", "things"] ["_law_take", "len"] := ⟨f_law_one, by kernel_rfl, by kernel_rfl, by kernel_rfl, by kernel_rfl, by kernel_rfl, by kernel_rfl, by kernel_rfl⟩
theorem b_law_one : Binds 595 ["source", "things"] [] := by
  apply binds2 rfl
  intro _ _
  kernel_rfl
theorem f_law_levels : FnAt 600 := ⟨fun _ => by kernel_rfl, fun _ => by kernel_rfl, mem_find (p := fun r => Nat.beq r.addr 600) (by kernel_rfl)⟩
theorem c_law_levels : FnChk 600 [] ["rows"] ["dict", "enumerate"] := ⟨f_law_levels, by kernel_rfl, by kernel_rfl, by kernel_rfl, by kernel_rfl, by kernel_rfl, by kernel_rfl, by kernel_rfl⟩
theorem b_law_levels : Binds 600 [] [] := fun P s vals X hl => by
  obtain rfl := len0 hl
  exact .of_eq (by kernel_rfl)
theorem f_law_path : FnAt 607 := ⟨fun _ => by kernel_rfl, fun _ => by kernel_rfl, mem_find (p := fun r => Nat.beq r.addr 607) (by kernel_rfl)⟩
theorem c_law_path : FnChk 607 ["name", "spot"] ["name", "spot"] [] := ⟨f_law_path, by kernel_rfl, by kernel_rfl, by kernel_rfl, by kernel_rfl, by kernel_rfl, by kernel_rfl, by kernel_rfl⟩
theorem b_law_path : Binds 607 ["name", "spot"] [] := by
  apply binds2 rfl
  intro _ _
  kernel_rfl
theorem f_law_behind : FnAt 614 := ⟨fun _ => by kernel_rfl, fun _ => by kernel_rfl, mem_find (p := fun r => Nat.beq r.addr 614) (by kernel_rfl)⟩
theorem c_law_behind : FnChk 614 ["source", "text", "tree"] ["source", "text", "tree", "way"] ["_law_take", "_law_path", "len"] := ⟨f_law_behind, by kernel_rfl, by kernel_rfl, by kernel_rfl, by kernel_rfl, by kernel_rfl, by kernel_rfl, by kernel_rfl⟩
theorem b_law_behind : Binds 614 ["source", "text", "tree"] [] := by
  apply binds3 rfl
  intro _ _ _
  kernel_rfl
theorem f_law_operand : FnAt 621 := ⟨fun _ => by kernel_rfl, fun _ => by kernel_rfl, mem_find (p := fun r => Nat.beq r.addr 621) (by kernel_rfl)⟩
theorem c_law_operand : FnChk 621 ["source", "text", "deep"] ["source", "text", "deep", "signs", "turn", "sign", "tree", "name", "spot", "told"] ["range", "_law_one", "len", "_law_take", "_law_drawn", "_law_behind", "_law_path"] := ⟨f_law_operand, by kernel_rfl, by kernel_rfl, by kernel_rfl, by kernel_rfl, by kernel_rfl, by kernel_rfl, by kernel_rfl⟩
theorem b_law_operand : Binds 621 ["source", "text", "deep"] [] := by
  apply binds3 rfl
  intro _ _ _
  kernel_rfl
theorem f_law_drawn : FnAt 628 := ⟨fun _ => by kernel_rfl, fun _ => by kernel_rfl, mem_find (p := fun r => Nat.beq r.addr 628) (by kernel_rfl)⟩
theorem c_law_drawn : FnChk 628 ["source", "text", "deep"] ["source", "text", "deep", "tree", "trees", "ops", "turn"] ["_law_operand", "range", "_law_take", "_law_one", "list", "_law_levels", "_law_parted"] := ⟨f_law_drawn, by kernel_rfl, by kernel_rfl, by kernel_rfl, by kernel_rfl, by kernel_rfl, by kernel_rfl, by kernel_rfl⟩
theorem b_law_drawn : Binds 628 ["source", "text", "deep"] [] := by
  apply binds3 rfl
  intro _ _ _
  kernel_rfl
theorem f_law_told : FnAt 640 := ⟨fun _ => by kernel_rfl, fun _ => by kernel_rfl, mem_find (p := fun r => Nat.beq r.addr 640) (by kernel_rfl)⟩
theorem c_law_told : FnChk 640 ["text"] ["text", "words", "found"] ["read_words", "read_expr", "GrammarFault"] := ⟨f_law_told, by kernel_rfl, by kernel_rfl, by kernel_rfl, by kernel_rfl, by kernel_rfl, by kernel_rfl, by kernel_rfl⟩
theorem b_law_told : Binds 640 ["text"] [] := by
  apply binds1 rfl
  intro _
  kernel_rfl
theorem f_law : FnAt 645 := ⟨fun _ => by kernel_rfl, fun _ => by kernel_rfl, mem_find (p := fun r => Nat.beq r.addr 645) (by kernel_rfl)⟩
theorem c_law : FnChk 645 ["script"] ["script", "source", "names", "ops", "fixed", "text", "due"] ["_law_pool", "_law_parted", "enumerate", "_law_told", "_law_drawn"] := ⟨f_law, by kernel_rfl, by kernel_rfl, by kernel_rfl, by kernel_rfl, by kernel_rfl, by kernel_rfl, by kernel_rfl⟩
theorem b_law : Binds 645 ["script"] [] := by
  apply binds1 rfl
  intro _
  kernel_rfl
theorem f_e_init : FnAt 29 := ⟨fun _ => by kernel_rfl, fun _ => by kernel_rfl, mem_find (p := fun r => Nat.beq r.addr 29) (by kernel_rfl)⟩
theorem c_e_init : FnChk 29 ["self", "message", "spot"] ["self", "message", "spot"] ["Exception"] := ⟨f_e_init, by kernel_rfl, by kernel_rfl, by kernel_rfl, by kernel_rfl, by kernel_rfl, by kernel_rfl, by kernel_rfl⟩
theorem b_e_init : Binds 29 ["self", "message", "spot"] [] := fun P s vals X hl => by
  obtain ⟨v, u, t, rfl⟩ := len3 hl
  exact .of_defaults (T := 22) (items := #[.int 0 201]) (n := 0) (by kernel_rfl) (X _ _ (by kernel_rfl : (KO P).lookup 22 = some { cls := .type "tuple", data := .seq #[.int 0 201] 0 })) rfl rfl rfl
theorem f_w_init : FnAt 146 := ⟨fun _ => by kernel_rfl, fun _ => by kernel_rfl, mem_find (p := fun r => Nat.beq r.addr 146) (by kernel_rfl)⟩
theorem c_w_init : FnChk 146 ["self", "rows"] ["self", "rows"] ["list"] := ⟨f_w_init, by kernel_rfl, by kernel_rfl, by kernel_rfl, by kernel_rfl, by kernel_rfl, by kernel_rfl, by kernel_rfl⟩
theorem b_w_init : Binds 146 ["self", "rows"] [] := by
  apply binds2 rfl
  intro _ _
  kernel_rfl
theorem m_w_init : MethAt "__init__" 146 := ⟨f_w_init, fun _ => by kernel_rfl⟩
theorem f_w_peek : FnAt 154 := ⟨fun _ => by kernel_rfl, fun _ => by kernel_rfl, mem_find (p := fun r => Nat.beq r.addr 154) (by kernel_rfl)⟩
theorem c_w_peek : FnChk 154 ["self", "ahead"] ["self", "ahead"] ["min", "len"] := ⟨f_w_peek, by kernel_rfl, by kernel_rfl, by kernel_rfl, by kernel_rfl, by kernel_rfl, by kernel_rfl, by kernel_rfl⟩
theorem b_w_peek : Binds 154 ["self", "ahead"] [] := fun P s vals X hl => by
  obtain ⟨v, u, rfl⟩ := len2 hl
  exact .of_defaults (T := 147) (items := #[.int 0 474]) (n := 0) (by kernel_rfl) (X _ _ (by kernel_rfl : (KO P).lookup 147 = some { cls := .type "tuple", data := .seq #[.int 0 474] 0 })) rfl rfl rfl
theorem d_w_peek : Binds 154 ["self"] [("ahead", .int 0 474, .int 0)] := fun P s vals X hl => by
  obtain ⟨v, rfl⟩ := len1 hl
  exact .of_defaults (T := 147) (items := #[.int 0 474]) (n := 0) (by kernel_rfl) (X _ _ (by kernel_rfl : (KO P).lookup 147 = some { cls := .type "tuple", data := .seq #[.int 0 474] 0 })) rfl rfl rfl
theorem m_w_peek : MethAt "peek" 154 := ⟨f_w_peek, fun _ => by kernel_rfl⟩
theorem f_w_take : FnAt 161 := ⟨fun _ => by kernel_rfl, fun _ => by kernel_rfl, mem_find (p := fun r => Nat.beq r.addr 161) (by kernel_rfl)⟩
theorem c_w_take : FnChk 161 ["self"] ["self", "word"] [] := ⟨f_w_take, by kernel_rfl, by kernel_rfl, by kernel_rfl, by kernel_rfl, by kernel_rfl, by kernel_rfl, by kernel_rfl⟩
theorem b_w_take : Binds 161 ["self"] [] := by
  apply binds1 rfl
  intro _
  kernel_rfl
theorem m_w_take : MethAt "take" 161 := ⟨f_w_take, fun _ => by kernel_rfl⟩
theorem f_w_looks : FnAt 169 := ⟨fun _ => by kernel_rfl, fun _ => by kernel_rfl, mem_find (p := fun r => Nat.beq r.addr 169) (by kernel_rfl)⟩
theorem c_w_looks : FnChk 169 ["self", "text", "ahead"] ["self", "text", "ahead", "word"] [] := ⟨f_w_looks, by kernel_rfl, by kernel_rfl, by kernel_rfl, by kernel_rfl, by kernel_rfl, by kernel_rfl, by kernel_rfl⟩
theorem d_w_looks : Binds 169 ["self", "text"] [("ahead", .int 0 491, .int 0)] := fun P s vals X hl => by
  obtain ⟨v, u, rfl⟩ := len2 hl
  exact .of_defaults (T := 162) (items := #[.int 0 491]) (n := 0) (by kernel_rfl) (X _ _ (by kernel_rfl : (KO P).lookup 162 = some { cls := .type "tuple", data := .seq #[.int 0 491] 0 })) rfl rfl rfl
theorem m_w_looks : MethAt "looks" 169 := ⟨f_w_looks, fun _ => by kernel_rfl⟩
theorem f_w_expect : FnAt 176 := ⟨fun _ => by kernel_rfl, fun _ => by kernel_rfl, mem_find (p := fun r => Nat.beq r.addr 176) (by kernel_rfl)⟩
theorem c_w_expect : FnChk 176 ["self", "text"] ["self", "text"] ["GrammarFault"] := ⟨f_w_expect, by kernel_rfl, by kernel_rfl, by kernel_rfl, by kernel_rfl, by kernel_rfl, by kernel_rfl, by kernel_rfl⟩
theorem b_w_expect : Binds 176 ["self", "text"] [] := by
  apply binds2 rfl
  intro _ _
  kernel_rfl
theorem m_w_expect : MethAt "expect" 176 := ⟨f_w_expect, fun _ => by kernel_rfl⟩
theorem f_w_name : FnAt 183 := ⟨fun _ => by kernel_rfl, fun _ => by kernel_rfl, mem_find (p := fun r => Nat.beq r.addr 183) (by kernel_rfl)⟩
theorem c_w_name : FnChk 183 ["self"] ["self", "word"] ["KEYWORDS", "GrammarFault"] := ⟨f_w_name, by kernel_rfl, by kernel_rfl, by kernel_rfl, by kernel_rfl, by kernel_rfl, by kernel_rfl, by kernel_rfl⟩
theorem b_w_name : Binds 183 ["self"] [] := by
  apply binds1 rfl
  intro _
  kernel_rfl
theorem m_w_name : MethAt "name" 183 := ⟨f_w_name, fun _ => by kernel_rfl⟩
end Mine

/-! # Text WG -/
open PySem PySem.W PyProof.Rows PySem.Calls
set_option Elab.async false
set_option maxRecDepth 10000
namespace Mine
/-! # The globals of the text -/
theorem g_LendError : gval "LendError" = some (.ref 32) := by kernel_rfl
theorem g_GrammarFault : gval "GrammarFault" = some (.ref 57) := by kernel_rfl
theorem g_KEYWORDS : gval "KEYWORDS" = some (.ref 61) := by kernel_rfl
theorem g_SIGNS : gval "SIGNS" = some (.ref 62) := by kernel_rfl
theorem g_run_end : gval "run_end" = some (.ref 69) := by kernel_rfl
theorem g_blank_end : gval "blank_end" = some (.ref 83) := by kernel_rfl
theorem g_read_sign : gval "read_sign" = some (.ref 111) := by kernel_rfl
theorem g_read_word : gval "read_word" = some (.ref 118) := by kernel_rfl
theorem g_word_rows : gval "word_rows" = some (.ref 125) := by kernel_rfl
theorem g_read_words : gval "read_words" = some (.ref 132) := by kernel_rfl
theorem g_Words : gval "Words" = some (.ref 193) := by kernel_rfl
theorem g_PATH_WORDS : gval "PATH_WORDS" = some (.ref 198) := by kernel_rfl
theorem g_read_type : gval "read_type" = some (.ref 205) := by kernel_rfl
theorem g_read_paren_type : gval "read_paren_type" = some (.ref 212) := by kernel_rfl
theorem g_read_spath : gval "read_spath" = some (.ref 232) := by kernel_rfl
theorem g_read_segment : gval "read_segment" = some (.ref 239) := by kernel_rfl
theorem g_read_path_name : gval "read_path_name" = some (.ref 246) := by kernel_rfl
theorem g_LEVELS : gval "LEVELS" = some (.ref 352) := by kernel_rfl
theorem g_UPDATES : gval "UPDATES" = some (.ref 354) := by kernel_rfl
theorem g_MACROS : gval "MACROS" = some (.ref 355) := by kernel_rfl
theorem g_read_expr : gval "read_expr" = some (.ref 364) := by kernel_rfl
theorem g_level_of : gval "level_of" = some (.ref 371) := by kernel_rfl
theorem g_read_binary : gval "read_binary" = some (.ref 378) := by kernel_rfl
theorem g_read_behind : gval "read_behind" = some (.ref 385) := by kernel_rfl
theorem g_read_cast : gval "read_cast" = some (.ref 392) := by kernel_rfl
theorem g_cast_behind : gval "cast_behind" = some (.ref 399) := by kernel_rfl
theorem g_read_unary : gval "read_unary" = some (.ref 406) := by kernel_rfl
theorem g_read_borrow : gval "read_borrow" = some (.ref 413) := by kernel_rfl
theorem g_read_postfix : gval "read_postfix" = some (.ref 420) := by kernel_rfl
theorem g_read_member : gval "read_member" = some (.ref 427) := by kernel_rfl
theorem g_read_list : gval "read_list" = some (.ref 448) := by kernel_rfl
theorem g_is_block_like : gval "is_block_like" = some (.ref 455) := by kernel_rfl
theorem g_read_primary : gval "read_primary" = some (.ref 462) := by kernel_rfl
theorem g_read_path_like : gval "read_path_like" = some (.ref 469) := by kernel_rfl
theorem g_read_paren : gval "read_paren" = some (.ref 483) := by kernel_rfl
theorem g__law_pool : gval "_law_pool" = some (.ref 581) := by kernel_rfl
theorem g__law_take : gval "_law_take" = some (.ref 588) := by kernel_rfl
theorem g__law_one : gval "_law_one" = some (.ref 595) := by kernel_rfl
theorem g__law_levels : gval "_law_levels" = some (.ref 600) := by kernel_rfl
theorem g__law_path : gval "_law_path" = some (.ref 607) := by kernel_rfl
theorem g__law_behind : gval "_law_behind" = some (.ref 614) := by kernel_rfl
theorem g__law_operand : gval "_law_operand" = some (.ref 621) := by kernel_rfl
theorem g__law_drawn : gval "_law_drawn" = some (.ref 628) := by kernel_rfl
theorem g__law_parted : gval "_law_parted" = some (.ref 633) := by kernel_rfl
theorem g__law_told : gval "_law_told" = some (.ref 640) := by kernel_rfl
theorem g_law : gval "law" = some (.ref 645) := by kernel_rfl
end Mine

/-! # Text WPA -/
open PySem PySem.W PyProof.Rows PySem.Calls
set_option Elab.async false
set_option maxRecDepth 10000
set_option linter.unusedVariables false
namespace Mine
theorem keep_all (P : Params) : (fnRows.all fun r => keepIn (KO P) (.ref r.addr)) = true := by kernel_rfl
noncomputable def isFn (f : Addr) : Bool := fnRows.any fun r => Nat.beq r.addr f
theorem keep_of (P : Params) {f : Addr} (h : isFn f = true) : keepIn (KO P) (.ref f) = true := by
  obtain ⟨r, hr, e⟩ := List.any_eq_true.mp h
  rw [← Nat.eq_of_beq_eq_true e]
  exact List.all_eq_true.mp (keep_all P) r hr
section
variable {c : Fc} {ρ : List (Str × AV)} {P : List (Value × AV)} {σ : Store} {Q : AV → Store → Prop} {X : Store → Prop}
theorem E_fn {x : Str} {p pos : Pos} {args : List Expr} {f : Addr} (hk : c.glo.contains x = true) (hg : gval x = some (.ref f)) (hf : isFn f = true) (h : Evs c ρ P pos args σ (fun as σ₂ => CallJ c ρ (.ref f) as σ₂ Q X) X) (hs : (!args.isEmpty && args.all notStar) = true := by rfl)
    (he : eval (.Call (.Name x p) args [] pos) c.env = (do callWith pos (← eval (.Name x p) c.env) [] (backTo pos (starEach args c.env)) (backToKw pos (keywordEach [] c.env))) := by rfl) (hd : (x == ("__debug__" : Str)) = false := by decide) : Ev c ρ P (.Call (.Name x p) args [] pos) σ Q X :=
  E_call (f := f) (E_gf hk hg ⟨rfl, h⟩ hd) (keep_of _ hf) hs he
theorem E_bin_call {x : Str} {p pos : Pos} {args : List Expr} {f : Value} (hk : c.glo.contains x = true) (hf : x ∈ (["len", "min", "max", "int", "range", "enumerate", "dict", "list", "tuple", "Exception"] : List Str)) (hb : bootBuiltins x = some f) (hi : isBi f = true)
    (h : Evs c ρ P pos args σ (fun as σ₂ => CallJ c ρ f as σ₂ Q X) X) (hs : (!args.isEmpty && args.all notStar) = true := by rfl)
    (he : eval (.Call (.Name x p) args [] pos) c.env = (do callWith pos (← eval (.Name x p) c.env) [] (backTo pos (starEach args c.env)) (backToKw pos (keywordEach [] c.env))) := by rfl) (hn : x ≠ "__name__" := by decide) (hd : (x == ("__debug__" : Str)) = false := by decide) : Ev c ρ P (.Call (.Name x p) args [] pos) σ Q X :=
  E_callB (f := f) hi (E_bi hk hf hb ⟨rfl, h⟩ hn hd) hs he
theorem E_len {p pos : Pos} {args : List Expr} (hk : c.glo.contains "len" = true) (hs : (!args.isEmpty && args.all notStar) = true) (h : Evs c ρ P pos args σ (fun as σ₂ => CallJ c ρ (.builtin "len") as σ₂ Q X) X) : Ev c ρ P (.Call (.Name "len" p) args [] pos) σ Q X := E_bin_call (x := "len") (f := .builtin "len") hk (by decide) (by kernel_rfl) rfl h hs
theorem E_min {p pos : Pos} {args : List Expr} (hk : c.glo.contains "min" = true) (hs : (!args.isEmpty && args.all notStar) = true) (h : Evs c ρ P pos args σ (fun as σ₂ => CallJ c ρ (.builtin "min") as σ₂ Q X) X) : Ev c ρ P (.Call (.Name "min" p) args [] pos) σ Q X := E_bin_call (x := "min") (f := .builtin "min") hk (by decide) (by kernel_rfl) rfl h hs
theorem E_max {p pos : Pos} {args : List Expr} (hk : c.glo.contains "max" = true) (hs : (!args.isEmpty && args.all notStar) = true) (h : Evs c ρ P pos args σ (fun as σ₂ => CallJ c ρ (.builtin "max") as σ₂ Q X) X) : Ev c ρ P (.Call (.Name "max" p) args [] pos) σ Q X := E_bin_call (x := "max") (f := .builtin "max") hk (by decide) (by kernel_rfl) rfl h hs
theorem E_intc {p pos : Pos} {args : List Expr} (hk : c.glo.contains "int" = true) (hs : (!args.isEmpty && args.all notStar) = true) (h : Evs c ρ P pos args σ (fun as σ₂ => CallJ c ρ (.type "int") as σ₂ Q X) X) : Ev c ρ P (.Call (.Name "int" p) args [] pos) σ Q X := E_bin_call (x := "int") (f := .type "int") hk (by decide) (by kernel_rfl) rfl h hs
theorem E_range {p pos : Pos} {args : List Expr} (hk : c.glo.contains "range" = true) (hs : (!args.isEmpty && args.all notStar) = true) (h : Evs c ρ P pos args σ (fun as σ₂ => CallJ c ρ (.type "range") as σ₂ Q X) X) : Ev c ρ P (.Call (.Name "range" p) args [] pos) σ Q X := E_bin_call (x := "range") (f := .type "range") hk (by decide) (by kernel_rfl) rfl h hs
theorem E_dictc {p pos : Pos} {args : List Expr} (hk : c.glo.contains "dict" = true) (hs : (!args.isEmpty && args.all notStar) = true) (h : Evs c ρ P pos args σ (fun as σ₂ => CallJ c ρ (.type "dict") as σ₂ Q X) X) : Ev c ρ P (.Call (.Name "dict" p) args [] pos) σ Q X := E_bin_call (x := "dict") (f := .type "dict") hk (by decide) (by kernel_rfl) rfl h hs
theorem E_listc {p pos : Pos} {args : List Expr} (hk : c.glo.contains "list" = true) (hs : (!args.isEmpty && args.all notStar) = true) (h : Evs c ρ P pos args σ (fun as σ₂ => CallJ c ρ (.type "list") as σ₂ Q X) X) : Ev c ρ P (.Call (.Name "list" p) args [] pos) σ Q X := E_bin_call (x := "list") (f := .type "list") hk (by decide) (by kernel_rfl) rfl h hs
theorem E_tuplec {p pos : Pos} {args : List Expr} (hk : c.glo.contains "tuple" = true) (hs : (!args.isEmpty && args.all notStar) = true) (h : Evs c ρ P pos args σ (fun as σ₂ => CallJ c ρ (.type "tuple") as σ₂ Q X) X) : Ev c ρ P (.Call (.Name "tuple" p) args [] pos) σ Q X := E_bin_call (x := "tuple") (f := .type "tuple") hk (by decide) (by kernel_rfl) rfl h hs
theorem fits_of {k : Int} (h0 : -(2 ^ 40) ≤ k) (h1 : k ≤ 2 ^ 40) : fitsSsize k = true := by
  unfold fitsSsize
  simp
  (first | lia | omega)
end
local macro_rules | `(tactic| k_memK) => `(tactic| first
  | with_reducible refine S_cons ?_
  | with_reducible refine S_return ?_
  | ((with_reducible refine S_assign ?_ ?_ ?_); rotate_left; rotate_left; rfl; rfl)
  | with_reducible refine S_if ?_
  | ((with_reducible refine E_loc (v := ?_) ?_ ?_); rotate_left; rfl)
  | with_reducible refine E_int ?_
  | with_reducible refine E_str ?_
  | with_reducible refine E_bool ?_
  | with_reducible refine E_none ?_
  | with_reducible refine E_sub ?_
  | with_reducible refine E_bin ?_
  | ((with_reducible refine E_attr ?_ ?_); rotate_left; rfl)
  | ((with_reducible refine E_cmp ?_ ?_); rotate_left; with_unfolding_all rfl)
  | ((with_reducible refine T_cmp ?_ ?_); rotate_left; with_unfolding_all rfl)
  | with_reducible refine T_not ?_
  | with_reducible refine T_bool ?_
  | with_reducible refine All_and ?_
  | with_reducible refine All_or ?_
  | with_reducible refine E_and ?_
  | with_reducible refine E_if ?_
  | with_reducible refine E_tup ?_
  | ((with_reducible refine Evs_cons ?_ ?_); rotate_left; rfl)
  | with_reducible refine Evs_nil ?_
  | ((with_reducible refine E_len ?_ ?_ ?_); rfl; rfl)
  | ((with_reducible refine E_min ?_ ?_ ?_); rfl; rfl)
  | ((with_reducible refine E_max ?_ ?_ ?_); rfl; rfl)
  | ((with_reducible refine E_intc ?_ ?_ ?_); rfl; rfl)
  | ((with_reducible refine E_listc ?_ ?_ ?_); rfl; rfl)
  | ((with_reducible refine E_tuplec ?_ ?_ ?_); rfl; rfl)
  | ((with_reducible refine T_val ?_ ?_); rotate_left; rfl))
/-! # The words -/
structure Tk where
  kind : Str
  text : Str
  pos : Int
deriving DecidableEq
noncomputable abbrev Tk.av (t : Tk) : AV := .tup [.str t.kind, .str t.text, .int t.pos, .none, .none]
structure Ws where
  x : Addr
  d : Addr
  L : Addr
  ts : List Tk
noncomputable abbrev Ws.obj (W : Ws) (i : Nat) : Cell := .inst 193 W.d [("rows", .loc W.L), ("at", .int i)]
structure WAt (σ : Store) (W : Ws) (i : Nat) : Prop where
  obj : σ W.x = some (W.obj i)
  rows : σ W.L = some (.list (W.ts.map Tk.av))
  own : σ W.d = some (.own W.x)
  some : 1 ≤ W.ts.length
  fits : W.ts.length ≤ 2 ^ 24
noncomputable def eot : Tk := ⟨"end", "", 0⟩
noncomputable def Ws.tok (W : Ws) (i : Nat) : Tk := W.ts.getD (min i (W.ts.length - 1)) eot
section
variable {c : Fc} {ρ : List (Str × AV)} {P : List (Value × AV)} {σ : Store} {Q : AV → Store → Prop} {X : Store → Prop}
noncomputable abbrev Ret (Q : AV → Store → Prop) : Fl → List (Str × AV) → Store → Prop := fun fl _ σ' => ∃ b, (fl = .ret b ∨ (fl = .next ∧ b = .none)) ∧ Q b σ'
theorem retq {a : AV} {σ : Store} (q : Q a σ) : ∃ b, (Fl.ret a = .ret b ∨ (Fl.ret a = .next ∧ b = .none)) ∧ Q b σ := ⟨a, .inl rfl, q⟩
theorem nextq {σ : Store} (q : Q .none σ) : ∃ b, (Fl.next = .ret b ∨ (Fl.next = .next ∧ b = .none)) ∧ Q b σ := ⟨.none, .inr ⟨rfl, rfl⟩, q⟩
theorem get_rows {W : Ws} {i : Nat} (h : WAt σ W i) (q : Q (.loc W.L) σ) : GetJ c ρ (.loc W.x) "rows" σ Q := get_words (own_rows _) h.obj rfl rfl q
theorem get_at {W : Ws} {i : Nat} (h : WAt σ W i) (q : Q (.int i) σ) : GetJ c ρ (.loc W.x) "at" σ Q := get_words (own_at _) h.obj rfl rfl q
theorem peek_core {W : Ws} {i k : Nat} (h : WAt σ W i) (hi : i ≤ W.ts.length) (hk : k ≤ 8) (q : Q (W.tok (i + k)).av σ) (L : Addr) :
    JS (calleeFc c 154 L ["self", "ahead"] ["min", "len"]) (Lv [("self", .loc W.x), ("ahead", .int k)]) (bodyOf 154) σ (Ret Q) X := by
  have h1 := h.some; have h2 := h.fits
  conv => arg 3; whnf
  repeat k_memK
  refine get_rows h ?_
  repeat k_memK
  refine get_at h ?_
  repeat k_memK
  refine bin_addI ?_
  repeat k_memK
  refine get_rows h ?_
  repeat k_memK
  refine call_lenL h.rows (by rw [List.length_map]; (first | lia | omega)) ?_
  repeat k_memK
  refine bin_subI ?_
  repeat k_memK
  refine call_min2 ?_
  have e : (if ((W.ts.map Tk.av).length : Int) - 1 < (i : Int) + k then ((W.ts.map Tk.av).length : Int) - 1 else (i : Int) + k) = ((min (i + k) (W.ts.length - 1) : Nat) : Int) := by
    rw [List.length_map]; split <;> (first | lia | omega)
  rw [e]
  refine sub_list (fun _ _ => ⟨_, rfl⟩) h.rows (by (first | lia | omega)) (by (first | lia | omega)) ?_ (retq q)
  rw [List.getElem?_map, Int.toNat_natCast]
  have : min (i + k) (W.ts.length - 1) < W.ts.length := by (first | lia | omega)
  unfold Ws.tok
  rw [List.getD_eq_getElem?_getD, List.getElem?_eq_getElem this]; rfl
theorem peek_ok {W : Ws} {i k : Nat} (h : WAt σ W i) (hi : i ≤ W.ts.length) (hk : k ≤ 8) (hn : 1 ≤ c.n) (q : Q (W.tok (i + k)).av σ) : CallJ c ρ (.ref 154) [.loc W.x, .int k] σ Q X :=
  call_def0 c_w_peek b_w_peek hn ⟨rfl, rfl⟩ fun L => peek_core h hi hk q L
theorem peek0_ok {W : Ws} {i : Nat} (h : WAt σ W i) (hi : i ≤ W.ts.length) (hn : 1 ≤ c.n) (q : Q (W.tok i).av σ) : CallJ c ρ (.ref 154) [.loc W.x] σ Q X :=
  call_def1 c_w_peek d_w_peek (fun h => ⟨_, rfl⟩) hn ⟨rfl, rfl⟩ fun L => peek_core (k := 0) h hi (by decide) q L
end

/-! # Text WPB -/
section
variable {c : Fc} {ρ : List (Str × AV)} {P : List (Value × AV)} {σ : Store} {X : Store → Prop}
theorem Good.puti {w : World} {H : Heap} {s s' : Shared} {σ : Store} {x d C : Addr} {es es' : List (Str × AV)} (ok : HeapOK w H s.heap σ) (r : s'.gens = s.gens ∧ s'.drawn = s.drawn ∧ s'.os = s.os) (k : ∀ b o, b ≠ x → b ≠ d → s.heap.get? b = some o → s'.heap.get? b = some o)
    (e : σ x = some (.inst C d es)) (hc : CellRel w s'.heap x (.inst C d es')) : Good w H none s σ s' (σ.set x (.inst C d es')) := by
  have ed := ok.own _ _ _ _ e
  have hxd : d ≠ x := fun q => by rw [q, e] at ed; cases ed
  have hT : ∀ b o, (b = x ∨ b = d) → s.heap.get? b = some o → ¬ Tup o := fun b o q e' => by
    rcases q with rfl | rfl
    · exact (ok.cells _ _ e).1.notTuple e'
    · exact (ok.cells _ _ ed).1.notTuple e'
  refine ⟨r, ⟨fun b o q => k b o (fun q2 => by subst q2; rw [(ok.cells _ _ e).2] at q; cases q) (fun q2 => by subst q2; rw [(ok.cells _ _ ed).2] at q; cases q) (ok.stays b o q), fun b cl q => ?_, fun b C' d' es'' q => ?_⟩,
    fun b o q n _ => k b o (fun q2 => by subst q2; rw [e] at n; cases n) (fun q2 => by subst q2; rw [ed] at n; cases n) q, fun b o q n => ?_⟩
  · by_cases q2 : b = x
    · subst q2; rw [Store.set_same] at q; cases q; exact ⟨hc, (ok.cells _ _ e).2⟩
    · rw [Store.set_ne q2] at q
      by_cases q3 : b = d
      · subst q3
        rw [ed] at q; cases q
        refine ⟨?_, (ok.cells _ _ ed).2⟩
        obtain ⟨m, o, h1, h2, _, ⟨o2, h3, _, _, h4⟩, _⟩ := hc
        rw [h1] at h3; cases h3
        rcases h4 with ⟨h5, _⟩ | ⟨d', h5, _, h6⟩
        · rw [h2] at h5; cases h5
        · rw [h2] at h5; cases h5
          obtain ⟨o3, es3, ep3, g3, g4, _⟩ := h6
          exact ⟨o3, es3, ep3, g3, g4⟩
      · refine ⟨(ok.cells b cl q).1.but (D := fun b => b = x ∨ b = d) (fun b o nb => k b o (fun q => nb (.inl q)) (fun q => nb (.inr q))) hT (fun q => q.elim q2 q3) (fun C' d' es'' q4 => ?_), (ok.cells b cl q).2⟩
        subst q4
        have := ok.own _ _ _ _ q
        rintro (rfl | rfl)
        · rw [e] at this; cases this
        · -- two objects share a dict: the first one's is its own
          rw [ed] at this; cases this; exact q2 rfl
  · by_cases q2 : b = x
    · subst q2; rw [Store.set_same] at q; cases q; rw [Store.set_ne hxd]; exact ed
    · rw [Store.set_ne q2] at q
      have := ok.own _ _ _ _ q
      rw [Store.set_ne fun q => by rw [q, e] at this; cases this]; exact this
  · rw [Store.set_ne fun q2 => by subst q2; rw [e] at n; cases n]; exact n
theorem within_lookup {h : Heap} {m : Str → Option Value} {es : List (Str × AV)} (r : AttrsRel h m es) : Within m (es.map (·.1)) := fun y hy => by
  have := r y
  cases e : es.lookup y with
  | none => rw [e] at this; exact absurd this hy
  | some v =>
    clear this r
    induction es with
    | nil => cases e
    | cons p l ih =>
      obtain ⟨z, w⟩ := p
      rw [List.lookup_cons] at e
      rw [List.map_cons]
      cases q : y == z with
      | true => rw [eq_of_beq q]; exact .head _
      | false => rw [q] at e; exact .tail _ (ih e)
theorem set_words {x d : Addr} {es : List (Str × AV)} {attr : Str} {v : AV} {A : Around} {outer : List Env} {s : Shared} {u : Value} {Q' : Unit → Shared → Prop} {E' : Value → Shared → Prop} (F0 : InFr c ρ P A outer s σ) (hO : OwnAttr c.w.params attr) (sx : σ x = some (.inst 193 d es)) (hl : es.length ≤ 100) (r : VRel s.heap u v)
    (q : ∀ s', Good c.w c.H none s σ s' (σ.set x (.inst 193 d (upd es attr v))) → Q' () s') : wpAny (model pw c.w) A (setAttr (.ref x) attr u) Q' E' s := by
  obtain ⟨m, o, hx, hd, hp, I, R⟩ := cell_at F0 sx
  have K := F0.K
  have hH := (F0.ok.cells _ _ sx).2
  refine store_attr (h := s.heap) (ns := es.map (·.1)) PySem.F.store_object (K _ _ (words_is _)) (K_ns K) ((nsMap_of_in K (wordsNs_is _) _).trans (words_no_sa _)) ((nsMap_of_in K (wordsNs_is _) _).trans hO.cls) hO.obj (fun e => ?_) I (fun h' tk' I' k ho => ?_) (within_lookup R) (by rw [List.length_map, sizeLine_eq]; (first | lia | omega))
  · rw [e, F0.base.says.objs _ _ (words_is _)] at hH; cases hH
  obtain ⟨o₁, hx₁, e1, e2, _, e3⟩ := ho o hx
  have k' : ∀ b o', b ≠ x → b ≠ d → s.heap.get? b = some o' → h'.get? b = some o' := fun b o' h1 h2 => k b o' h1 fun o₀ dx h3 h4 => by
    rw [hx] at h3; cases h3; rw [hd] at h4; cases h4; exact h2
  have hT : ∀ b o', s.heap.get? b = some o' → Tup o' → h'.get? b = some o' := fun b o' e t => k' b o' (fun q => by subst q; exact (F0.ok.cells _ _ sx).1.notTuple e t) (fun q => by subst q; exact (F0.ok.cells _ _ (F0.ok.own _ _ _ _ sx)).1.notTuple e t) e
  refine q _ (Good.puti (s' := ⟨h', s.gens, s.drawn, tk', s.os⟩) F0.ok ⟨rfl, rfl, rfl⟩ k' sx ⟨_, o₁, hx₁, e3 d hd, e2.trans hp, I', fun y => ?_⟩)
  rw [lookup_upd]
  by_cases q : y = attr
  · rw [if_pos q]; exact ⟨u, if_pos q, r.mono hT v⟩
  · rw [if_neg q]
    have := R y
    cases e : es.lookup y with
    | none => rw [e] at this; exact (if_neg q).trans this
    | some a => rw [e] at this; obtain ⟨w, h1, h2⟩ := this; exact ⟨w, (if_neg q).trans h1, h2.mono hT a⟩
theorem S_augA {o value : Expr} {attr : Str} {tpos pos : Pos} {Q : Fl → List (Str × AV) → Store → Prop}
    (h : Ev c ρ [] o σ (fun a σ₁ => ∃ x d es i, a = .loc x ∧ OwnAttr c.w.params attr ∧ σ₁ x = some (.inst 193 d es) ∧ es.length ≤ 100 ∧ es.lookup attr = some (.int i) ∧
      Ev c ρ [] value σ₁ (fun b σ₂ => ∃ j, b = .int j ∧ σ₂ = σ₁ ∧ Q .next ρ (σ₁.set x (.inst 193 d (upd es attr (.int (i + j)))))) X) X) : J1 c ρ (.AugAssign (.Attribute o attr tpos) .Add value pos) σ Q X := fun A outer s F => by
  refine wpAny_AugAssign_AttributeAny (h.go F (fun v a s₁ σ₁ G r ⟨x, d, es, i, e, hO, sx, hlen, hl, k⟩ => ?_) fun _ _ x => SExc.of x)
  subst e
  obtain rfl : v = .ref x := r
  have F₁ := F.stepL G
  have g : GetJ c ρ (.loc x) attr σ₁ (fun b σ₂ => b = .int i ∧ σ₂ = σ₁) := get_words hO sx hl rfl ⟨rfl, rfl⟩
  have F₁' : InFr c ρ [(.ref x, .loc x)] A outer s₁ σ₁ := { F₁ with pend := fun p hp => by cases List.mem_singleton.mp hp; rfl }
  refine (g (.ref x) _ (.head _) X).go F₁' (fun old b s₂ σ₂ G₂ r₂ ⟨e, e2⟩ => ?_) fun e s' x => SExc.up G.up F₁ e s' (SExc.of x)
  subst e e2
  obtain ⟨t, rfl⟩ := r₂
  have F₂ := F₁.stepL G₂
  refine k.go F₂ (fun v b s₃ σ₃ G₃ r₃ ⟨j, e, e2, q⟩ => ?_) fun e s' x => SExc.up (G.trans G₂ noneK).up F₂ e s' (SExc.of x)
  subst e e2
  obtain ⟨t2, rfl⟩ := r₃
  have F₃ := F₂.stepL G₃
  refine iadd_int ?_
  have G4 : Good c.w c.H none s₃ σ₃ { s₃ with toks := s₃.toks + 1 } σ₃ := .keep F₃.ok ⟨rfl, rfl, rfl⟩ fun _ _ e => e
  have F₄ := F₃.stepL G4
  have GG := ((G.trans G₂ noneK).trans G₃ noneK).trans G4 noneK
  exact set_words (v := .int (i + j)) F₄ hO sx hlen ⟨_, rfl⟩ fun s₅ G₅ => ⟨.next, ρ, _, (GG.trans G₅ noneK).up, F₄.stepL G₅, trivial, q⟩
/-! ## The methods -/
theorem tset {σ : Store} {a : Addr} {x y : Cell} : (σ.set a x).set a y = σ.set a y := funext fun b => by
  unfold Store.set
  by_cases q : b = a
  · rw [if_pos q, if_pos q]
  · rw [if_neg q, if_neg q, if_neg q]
end

/-! # Text WPC -/
section
variable {c : Fc} {ρ : List (Str × AV)} {P : List (Value × AV)} {σ : Store} {Q : AV → Store → Prop} {X : Store → Prop}
theorem WAt.to {W : Ws} {i : Nat} (h : WAt σ W i) (j : Nat) : WAt (σ.set W.x (W.obj j)) W j := by
  refine ⟨Store.set_same, ?_, ?_, h.some, h.fits⟩
  · rw [Store.set_ne fun q => by have := h.rows; rw [q, h.obj] at this; cases this]; exact h.rows
  · rw [Store.set_ne fun q => by have := h.own; rw [q, h.obj] at this; cases this]; exact h.own
/-- a method of the words is called -/
theorem E_w0 {o : Expr} {name : Str} {apos pos : Pos} {f : Addr} (hM : MethAt name f) (hbase : attributeBase o name c.env (eval o c.env) = eval o c.env) (hline : (apos.endLine == pos.line) = true) (hnone : ∀ a b : AV, (Lv [("rows", a), ("at", b)]).lookup name = none)
    (h : Ev c ρ P o σ (fun a σ₁ => ∃ W i, a = .loc W.x ∧ WAt σ₁ W i ∧ CallJ c ρ (.ref f) [.loc W.x] σ₁ Q X) X) : Ev c ρ P (.Call (.Attribute o name apos) [] [] pos) σ Q X :=
  E_meth0 hM hbase hline (h.mono (fun a σ₁ ⟨W, i, e, w, k⟩ => ⟨W.x, W.d, _, e, w.obj, hnone _ _, k⟩) fun _ x => x)
theorem E_w {o : Expr} {name : Str} {apos pos : Pos} {args : List Expr} {f : Addr} (hM : MethAt name f) (hbase : attributeBase o name c.env (eval o c.env) = eval o c.env) (hline : (apos.endLine == pos.line) = true) (hnone : ∀ a b : AV, (Lv [("rows", a), ("at", b)]).lookup name = none)
    (hform : methodCallForm (args.length + ([] : List Keyword).length) (backTo pos (starEach args c.env)) (backToKw pos (keywordEach [] c.env)) = true) (hs : (!args.isEmpty && args.all notStar) = true)
    (h : Ev c ρ P o σ (fun a σ₁ => ∃ W i, a = .loc W.x ∧ WAt σ₁ W i ∧ Evs c ρ P pos args σ₁ (fun as σ₂ => CallJ c ρ (.ref f) (.loc W.x :: as) σ₂ Q X) X) X) : Ev c ρ P (.Call (.Attribute o name apos) args [] pos) σ Q X :=
  E_meth hM hbase hline hform hs (h.mono (fun a σ₁ ⟨W, i, e, w, k⟩ => ⟨W.x, W.d, _, e, w.obj, hnone _ _, k⟩) fun _ x => x)
end
noncomputable def subAt (as : List AV) : Int → Option AV
  | .ofNat n => bif Nat.ble n 1000 then as[n]? else none
  | .negSucc n => bif Nat.ble n 1000 then (bif Nat.blt n as.length then as[as.length - (n + 1)]? else none) else none
section
variable {c : Fc} {ρ : List (Str × AV)} {P : List (Value × AV)} {σ : Store} {Q : AV → Store → Prop} {X : Store → Prop}
theorem sub_t {slice : Expr} {as : List AV} {k : Int} {a : AV} (hs : Plain slice) (hk : subAt as k = some a) (q : Q a σ) : SubJ c ρ slice (.tup as) (.int k) σ Q := by
  cases k with
  | ofNat n =>
    change (bif Nat.ble n 1000 then as[n]? else none) = some a at hk
    cases h : Nat.ble n 1000 with
    | false => rw [h] at hk; cases hk
    | true =>
      rw [h] at hk
      have hn := Nat.le_of_ble_eq_true h
      have hk : as[n]? = some a := hk
      have hl := (List.getElem?_eq_some_iff.mp hk).1
      refine sub_tup (j := n) hs ?_ ?_ ?_ hk q
      · simp only [Int.ofNat_eq_natCast]; (first | lia | omega)
      · simp only [Int.ofNat_eq_natCast]; (first | lia | omega)
      · unfold seqIndex?; simp only [Int.ofNat_eq_natCast]; simp; (first | lia | omega)
  | negSucc n =>
    change (bif Nat.ble n 1000 then (bif Nat.blt n as.length then as[as.length - (n + 1)]? else none) else none) = some a at hk
    cases h : Nat.ble n 1000 with
    | false => rw [h] at hk; cases hk
    | true =>
      rw [h] at hk
      have hn := Nat.le_of_ble_eq_true h
      cases h2 : Nat.blt n as.length with
      | false => rw [h2] at hk; cases hk
      | true =>
        rw [h2] at hk
        have hk : as[as.length - (n + 1)]? = some a := hk
        have h3 : n < as.length := Nat.le_of_ble_eq_true h2
        refine sub_tup (j := as.length - (n + 1)) hs ?_ ?_ ?_ hk q
        · (first | lia | omega)
        · (first | lia | omega)
        · unfold seqIndex?; simp; (first | lia | omega)
end
noncomputable def strVals : Nat → List Str → List Value
  | _, [] => []
  | n, x :: l => .str x n :: strVals (n + 1) l
theorem strVals_rel (h : Heap) : ∀ (n : Nat) (l : List Str), VRels h (strVals n l) (l.map .str)
  | _, [] => rfl
  | n, x :: l => ⟨.str x n, _, rfl, ⟨n, rfl⟩, strVals_rel h (n + 1) l⟩
theorem tupS {a : Addr} {n : Nat} {l : List Str} (e : ∀ P, (KO P).lookup a = some { cls := .type "tuple", data := .seq (strVals n l).toArray 0 }) : ∀ P h, (KO P).In h → VRel h (.ref a) (.tup (l.map .str)) := fun P h X =>
  ⟨a, _, _, strVals n l, rfl, X _ _ (e P), rfl, rfl, strVals_rel h n l⟩
noncomputable def KW : List Str := ["_", "Self", "as", "break", "const", "continue", "crate", "else", "enum", "false", "fn", "for", "if", "impl", "in", "let", "loop", "match", "mod", "mut", "pub", "ref", "return", "self", "struct", "super", "trait", "true", "use", "while"]
noncomputable def SG : List Str := (["<<=", ">>=", "..=", "::", "->", "=>", "==", "!=", "<=", ">=", "&&", "||", "<<", ">>", "..", "+=", "-=", "*=", "/=", "%=", "&=", "|=", "^=", "(", ")", "{", "}", "[", "]", ",", ";", ":", ".", "=", "<", ">", "+", "-", "*", "/", "%", "&", "|", "^", "!", "@"] : List String).map str
noncomputable def PWS : List Str := ["Self", "crate", "self", "super"]
noncomputable def UPD : List Str := ["+=", "-=", "*=", "/=", "%=", "&=", "|=", "^=", "<<=", ">>="]
noncomputable def MAC : List Str := ["panic", "assert", "print"]
theorem t_KW : ∀ P h, (KO P).In h → VRel h (.ref 61) (.tup (KW.map .str)) := tupS (n := 265) fun _ => by kernel_rfl
theorem t_SG : ∀ P h, (KO P).In h → VRel h (.ref 62) (.tup (SG.map .str)) := tupS (n := 296) fun _ => by kernel_rfl
theorem t_PWS : ∀ P h, (KO P).In h → VRel h (.ref 198) (.tup (PWS.map .str)) := tupS (n := 538) fun _ => by kernel_rfl
theorem t_UPD : ∀ P h, (KO P).In h → VRel h (.ref 354) (.tup (UPD.map .str)) := tupS (n := 809) fun _ => by kernel_rfl
theorem t_MAC : ∀ P h, (KO P).In h → VRel h (.ref 355) (.tup (MAC.map .str)) := tupS (n := 820) fun _ => by kernel_rfl
local macro_rules | `(tactic| k_memK) => `(tactic| first
  | ((with_reducible refine E_w0 m_w_peek ?_ ?_ ?_ ?_); rfl; rfl; (intro _ _; rfl))
  | ((with_reducible refine E_w0 m_w_take ?_ ?_ ?_ ?_); rfl; rfl; (intro _ _; rfl))
  | ((with_reducible refine E_w0 m_w_name ?_ ?_ ?_ ?_); rfl; rfl; (intro _ _; rfl))
  | ((with_reducible refine E_w m_w_peek ?_ ?_ ?_ ?_ ?_ ?_); rfl; rfl; (intro _ _; rfl); rfl; rfl)
  | ((with_reducible refine E_w m_w_looks ?_ ?_ ?_ ?_ ?_ ?_); rfl; rfl; (intro _ _; rfl); rfl; rfl)
  | ((with_reducible refine E_w m_w_expect ?_ ?_ ?_ ?_ ?_ ?_); rfl; rfl; (intro _ _; rfl); rfl; rfl)
  | ((with_reducible refine sub_t (a := ?_) ?_ ?_ ?_); rotate_left; (exact fun _ _ => ⟨_, rfl⟩); rfl)
  | with_reducible refine E_list ?_
  | ((with_reducible refine S_expr ?_ ?_ ?_); rotate_left; rfl; rfl)
  | ((with_reducible refine E_append ?_ ?_ ?_ ?_ ?_); rfl; rfl; rfl; rfl)
  | with_reducible refine S_break ?_
  | with_reducible refine cmp_eqS ?_
  | with_reducible refine cmp_neS ?_)
theorem av_kind {t : Tk} : t.av = .tup [.str t.kind, .str t.text, .int t.pos, .none, .none] := rfl
section
variable {c : Fc} {ρ : List (Str × AV)} {P : List (Value × AV)} {σ : Store} {Q : AV → Store → Prop} {X : Store → Prop}
theorem take_ok {W : Ws} {i : Nat} (h : WAt σ W i) (hi : i ≤ W.ts.length) (hn : 2 ≤ c.n) (hk : (W.tok i).kind ≠ "end") (q : Q (W.tok i).av (σ.set W.x (W.obj (i + 1)))) : CallJ c ρ (.ref 161) [.loc W.x] σ Q X := by
  refine call_def0 c_w_take b_w_take (by (first | lia | omega)) (ρ₀ := [("self", .loc W.x)]) ⟨rfl, rfl⟩ fun L => ?_
  have hn' : 1 ≤ (calleeFc c 161 L ["self", "word"] []).n := by show 1 ≤ c.n - 1; (first | lia | omega)
  conv => arg 3; whnf
  repeat k_memK
  refine ⟨W, i, rfl, h, peek0_ok h hi hn' ?_⟩
  repeat k_memK
  rw [if_pos (bne_iff_ne.mpr hk)]
  try refine S_cons ?_
  refine S_augA ?_
  repeat k_memK
  refine ⟨W.x, W.d, _, i, rfl, own_at _, h.obj, (by decide : 2 ≤ 100), rfl, ?_⟩
  repeat k_memK
  refine ⟨1, rfl, rfl, ?_⟩
  refine S_nil ?_
  repeat k_memK
  exact retq q
theorem calleeN {a L : Addr} {loc glo : List Str} {k : Nat} (h : k + 1 ≤ c.n) : k ≤ (calleeFc c a L loc glo).n := by show k ≤ c.n - 1; (first | lia | omega)
/-- what `looks` answers -/
noncomputable def Tk.is (t : Tk) (s : Str) : Bool := strIn t.kind ["sign", "name"] && t.text == s
theorem looks_core {W : Ws} {i k : Nat} {s : Str} (h : WAt σ W i) (hi : i ≤ W.ts.length) (hk : k ≤ 8) (hn : 2 ≤ c.n) (q : Q (.bool ((W.tok (i + k)).is s)) σ) (L : Addr) :
    JS (calleeFc c 169 L ["self", "text", "ahead", "word"] []) (Lv [("self", .loc W.x), ("text", .str s), ("ahead", .int k)]) (bodyOf 169) σ (Ret Q) X := by
  conv => arg 3; whnf
  repeat k_memK
  refine ⟨W, i, rfl, h, ?_⟩
  repeat k_memK
  refine peek_ok h hi hk (calleeN hn) ?_
  repeat k_memK
  refine cmp_inTS (l := ["sign", "name"]) ?_
  refine ⟨_, rfl, ?_⟩
  have e : (W.tok (i + k)).is s = (strIn (W.tok (i + k)).kind ["sign", "name"] && (W.tok (i + k)).text == s) := rfl
  cases hs : strIn (W.tok (i + k)).kind ["sign", "name"] with
  | false =>
    rw [e, hs] at q
    exact retq q
  | true =>
    rw [e, hs] at q
    rw [if_pos rfl]
    repeat k_memK
    exact retq q
theorem looks0_ok {W : Ws} {i : Nat} {s : Str} (h : WAt σ W i) (hi : i ≤ W.ts.length) (hn : 2 ≤ c.n) (q : Q (.bool ((W.tok i).is s)) σ) : CallJ c ρ (.ref 169) [.loc W.x, .str s] σ Q X :=
  call_def1 c_w_looks d_w_looks (fun h => ⟨_, rfl⟩) (by (first | lia | omega)) ⟨rfl, rfl⟩ fun L => looks_core (k := 0) h hi (by decide) hn q L
theorem expect_ok {W : Ws} {i : Nat} {s : Str} (h : WAt σ W i) (hi : i ≤ W.ts.length) (hn : 3 ≤ c.n) (hs : (W.tok i).is s = true) (q : Q (W.tok i).av (σ.set W.x (W.obj (i + 1)))) : CallJ c ρ (.ref 176) [.loc W.x, .str s] σ Q X := by
  refine call_def0 c_w_expect b_w_expect (by (first | lia | omega)) (ρ₀ := [("self", .loc W.x), ("text", .str s)]) ⟨rfl, rfl⟩ fun L => ?_
  conv => arg 3; whnf
  repeat k_memK
  refine ⟨W, i, rfl, h, ?_⟩
  repeat k_memK
  refine looks0_ok h hi (calleeN hn) ⟨_, rfl, ?_⟩
  rw [hs, if_neg (by decide)]
  refine S_nil ?_
  repeat k_memK
  have hk : (W.tok i).kind ≠ "end" := fun e => by
    unfold Tk.is at hs
    rw [e] at hs
    exact absurd hs (by rw [show strIn "end" ["sign", "name"] = false by decide]; simp)
  exact ⟨W, i, rfl, h, take_ok h hi (calleeN hn) hk (retq q)⟩
theorem name_ok {W : Ws} {i : Nat} (h : WAt σ W i) (hi : i ≤ W.ts.length) (hn : 2 ≤ c.n) (hk : (W.tok i).kind = "name") (hw : strIn (W.tok i).text KW = false) (q : Q (.tup [.str (W.tok i).text, .int (W.tok i).pos]) (σ.set W.x (W.obj (i + 1)))) : CallJ c ρ (.ref 183) [.loc W.x] σ Q X := by
  refine call_def0 c_w_name b_w_name (by (first | lia | omega)) (ρ₀ := [("self", .loc W.x)]) ⟨rfl, rfl⟩ fun L => ?_
  conv => arg 3; whnf
  repeat k_memK
  refine ⟨W, i, rfl, h, peek0_ok h hi (calleeN hn) ?_⟩
  repeat k_memK
  rw [hk, if_neg (by decide)]
  repeat k_memK
  refine E_gl (v := .tup (KW.map .str)) rfl g_KEYWORDS t_KW ?_
  refine cmp_inTS ?_
  rw [hw, if_neg (by decide)]
  refine All_or_nil ?_
  rw [if_neg (by decide)]
  refine S_nil ?_
  try refine S_cons ?_
  refine S_augA ?_
  repeat k_memK
  refine ⟨W.x, W.d, _, i, rfl, own_at _, h.obj, (by decide : 2 ≤ 100), rfl, ?_⟩
  repeat k_memK
  refine ⟨1, rfl, rfl, ?_⟩
  repeat k_memK
  exact retq q
end

/-! # Text WPD -/
/-! # Tokens at hand -/
theorem WAt.new {σ : Store} {W : Ws} {i : Nat} (h : WAt σ W i) {F : Addr} (hF : σ F = none) {cl : Cell} : WAt (σ.set F cl) W i := by
  have k : ∀ a c, σ a = .some c → (σ.set F cl) a = .some c := fun a c e => (Store.set_ne fun q => by rw [q, hF] at e; cases e).trans e
  exact ⟨k _ _ h.obj, k _ _ h.rows, k _ _ h.own, h.some, h.fits⟩
noncomputable def Ext (x : Addr) (σ σ' : Store) : Prop := ∀ a cl, a ≠ x → σ a = some cl → σ' a = some cl
theorem Ext.refl {x : Addr} {σ : Store} : Ext x σ σ := fun _ _ _ e => e
theorem Ext.trans {x : Addr} {σ₁ σ₂ σ₃ : Store} (h : Ext x σ₁ σ₂) (k : Ext x σ₂ σ₃) : Ext x σ₁ σ₃ := fun a cl n e => k a cl n (h a cl n e)
theorem Ext.set {x : Addr} {σ : Store} {c : Cell} : Ext x σ (σ.set x c) := fun a cl n e => (Store.set_ne n).trans e
theorem Ext.new {x a : Addr} {σ : Store} {c : Cell} (h : σ a = none) : Ext x σ (σ.set a c) := fun b cl n e => (Store.set_ne fun q => by rw [q, h] at e; cases e).trans e
/-- the tokens from `i` on begin with `l`, and at least one more follows -/
noncomputable def At (W : Ws) (i : Nat) (l : List Tk) : Prop := ∃ r, W.ts.drop i = l ++ r ∧ r ≠ []
theorem At.le {W : Ws} {i : Nat} {l : List Tk} (h : At W i l) : i + l.length < W.ts.length := by
  obtain ⟨r, e, hr⟩ := h
  have := congrArg List.length e
  rw [List.length_drop, List.length_append] at this
  have : 0 < r.length := List.length_pos_iff.mpr hr
  (first | lia | omega)
theorem At.tok {W : Ws} {i k : Nat} {l : List Tk} (h : At W i l) {t : Tk} (e : l[k]? = some t) : W.tok (i + k) = t := by
  have hl := h.le
  obtain ⟨r, er, hr⟩ := h
  have hk := (List.getElem?_eq_some_iff.mp e).1
  unfold Ws.tok
  have : min (i + k) (W.ts.length - 1) = i + k := by (first | lia | omega)
  rw [this, List.getD_eq_getElem?_getD]
  have : W.ts[i + k]? = some t := by
    rw [← List.getElem?_drop, er, List.getElem?_append_left hk]; exact e
  rw [this]; rfl
theorem At.tok0 {W : Ws} {i : Nat} {l : List Tk} {t : Tk} (h : At W i (t :: l)) : W.tok i = t := h.tok (k := 0) rfl
theorem At.tok1 {W : Ws} {i : Nat} {l : List Tk} {t u : Tk} (h : At W i (t :: u :: l)) : W.tok (i + 1) = u := h.tok (k := 1) rfl
theorem At.drop {W : Ws} {i : Nat} {a b : List Tk} (h : At W i (a ++ b)) : At W (i + a.length) b := by
  obtain ⟨r, e, hr⟩ := h
  refine ⟨r, ?_, hr⟩
  rw [← List.drop_drop, e, List.append_assoc, List.drop_left]
theorem At.tail {W : Ws} {i : Nat} {b : List Tk} {t : Tk} (h : At W i (t :: b)) : At W (i + 1) b := At.drop (a := [t]) h
theorem At.take {W : Ws} {i : Nat} {a b : List Tk} (h : At W i (a ++ b)) : At W i a := by
  obtain ⟨r, e, hr⟩ := h
  exact ⟨b ++ r, by rw [e, List.append_assoc], by simp [hr]⟩
/-- one of these words, wherever it stands -/
noncomputable def Tk.among (t : Tk) (l : List (Str × Str)) : Bool := l.any fun p => p.1 == t.kind && p.2 == t.text
theorem among_of {t : Tk} {l : List (Str × Str)} (h : t.among l = true) : (t.kind, t.text) ∈ l := by
  obtain ⟨p, hp, e⟩ := List.any_eq_true.mp h
  rw [Bool.and_eq_true] at e
  obtain ⟨a, b⟩ := p
  rw [← eq_of_beq e.1, ← eq_of_beq e.2]; exact hp
noncomputable def isKT (p : Str × Str) (s : Str) : Bool := strIn p.1 ["sign", "name"] && p.2 == s
theorem among_is {t : Tk} {l : List (Str × Str)} (h : t.among l = true) {s : Str} (k : l.all (fun p => !isKT p s) = true) : t.is s = false := by
  have := List.all_eq_true.mp k _ (among_of h)
  rw [Bool.not_eq_true'] at this
  exact this
theorem nt {b : Bool} (h : b = false) : ¬ (b = true) := fun e => by rw [h] at e; cases e
noncomputable def nms : List Str := ["a", "b", "c", "d", "x", "f", "m", "T", "e"]
theorem nm_in {x : Str} (h : x ∈ nms) {l : List Str} (k : nms.all (fun y => !strIn y l) = true) : strIn x l = false := by
  have := List.all_eq_true.mp k _ h
  simpa using this
theorem nm_ne {x : Str} (h : x ∈ nms) {s : Str} (k : nms.all (fun y => !(y == s)) = true) : (x == s) = false := by
  have := List.all_eq_true.mp k _ h
  simpa using this
noncomputable abbrev sg (s : Str) (p : Int) : Tk := ⟨"sign", s, p⟩
noncomputable abbrev nm (s : Str) (p : Int) : Tk := ⟨"name", s, p⟩
section
variable {c : Fc} {ρ : List (Str × AV)} {P : List (Value × AV)} {σ : Store} {Q : AV → Store → Prop} {X : Store → Prop}
theorem t_false : ∀ (P : Params) (h : Heap), (KO P).In h → VRel h (.bool false) (.bool false) := fun _ _ _ => rfl
theorem path_name_ok {W : Ws} {i : Nat} {x : Str} {p : Int} (h : WAt σ W i) (a : At W i [nm x p]) (hx : x ∈ nms) (hn : 4 ≤ c.n) (ah : AV) (q : Q (.str x) (σ.set W.x (W.obj (i + 1)))) : CallJ c ρ (.ref 246) [.loc W.x, ah] σ Q X := by
  have hi : i ≤ W.ts.length := by have := a.le; (first | lia | omega)
  refine call_def0 c_read_path_name b_read_path_name (by (first | lia | omega)) (ρ₀ := [("words", .loc W.x), ("ahead", ah)]) ⟨rfl, rfl⟩ fun L => ?_
  conv => arg 3; whnf
  repeat k_memK
  refine ⟨W, i, rfl, h, peek0_ok h hi (calleeN (by (first | lia | omega))) ?_⟩
  rw [a.tok0]
  repeat k_memK
  rw [if_pos (by rfl)]
  repeat k_memK
  refine E_gl (v := .tup (PWS.map .str)) rfl g_PATH_WORDS t_PWS ?_
  refine cmp_inTS ?_
  rw [nm_in hx (by decide), if_neg (by decide), if_neg (by decide)]
  refine S_nil ?_
  repeat k_memK
  refine ⟨W, i, rfl, h, name_ok h hi (calleeN (by (first | lia | omega))) (by rw [a.tok0]) (by rw [a.tok0]; exact nm_in hx (by decide)) ?_⟩
  rw [a.tok0]
  repeat k_memK
  exact retq q
theorem S_while0 {ρ : List (Str × AV)} {test : Expr} {body : List Stmt} {pos : Pos} {Q : Fl → List (Str × AV) → Store → Prop} (h : Tst c ρ [] test σ (fun b σ₁ => b = false ∧ Q .next ρ σ₁) X) : J1 c ρ (.While test body [] pos) σ Q X :=
  S_while (fun _ ρ' σ' => ρ' = ρ ∧ σ' = σ) (fun n ρ' σ' ⟨e, e'⟩ => by
    subst e e'
    exact h.mono (fun b σ₁ ⟨e, q⟩ => by subst e; exact q) fun _ x => x) 0 ⟨rfl, rfl⟩
theorem segment_ok {W : Ws} {i : Nat} {x : Str} {p : Int} {b : Bool} (h : WAt σ W i) (a : At W i [nm x p]) (hx : x ∈ nms) (hn : 5 ≤ c.n) (ah : AV) (h1 : (W.tok (i + 1)).is "::" = false) (h2 : b = false → (W.tok (i + 1)).is "<" = false)
    (q : Q (.tup [.str x, .tup [], .tup []]) (σ.set W.x (W.obj (i + 1)))) : CallJ c ρ (.ref 239) [.loc W.x, ah, .bool b] σ Q X := by
  have hi : i + 1 ≤ W.ts.length := by have := a.le; simp at this; (first | lia | omega)
  refine call_def0 c_read_segment b_read_segment (by (first | lia | omega)) (ρ₀ := [("words", .loc W.x), ("ahead", ah), ("is_expr", .bool b)]) ⟨rfl, rfl⟩ fun L => ?_
  conv => arg 3; whnf
  repeat k_memK
  refine E_fn rfl g_read_path_name rfl ?_
  repeat k_memK
  refine path_name_ok h a hx (calleeN (by (first | lia | omega))) ah ?_
  repeat k_memK
  refine ⟨W, i + 1, rfl, h.to _, ?_⟩
  repeat k_memK
  refine looks0_ok (h.to _) hi (calleeN (by (first | lia | omega))) ⟨_, rfl, ?_⟩
  rw [h1, if_neg (by decide), if_neg (by decide)]
  refine S_nil ?_
  repeat k_memK
  refine ⟨_, rfl, ?_⟩
  cases b with
  | true =>
    rw [if_neg (by decide), if_neg (by decide)]
    refine S_nil ?_
    repeat k_memK
    exact retq q
  | false =>
    rw [if_pos (by decide)]
    repeat k_memK
    refine ⟨W, i + 1, rfl, h.to _, ?_⟩
    repeat k_memK
    refine looks0_ok (h.to _) hi (calleeN (by (first | lia | omega))) ⟨_, rfl, ?_⟩
    rw [h2 rfl, if_neg (by decide), if_neg (by decide)]
    refine S_nil ?_
    repeat k_memK
    exact retq q
theorem spath_core {W : Ws} {i : Nat} {x : Str} {p : Int} {b : Bool} (h : WAt σ W i) (a : At W i [nm x p]) (hx : x ∈ nms) (hn : 6 ≤ c.n) (h1 : (W.tok (i + 1)).is "::" = false) (h2 : b = false → (W.tok (i + 1)).is "<" = false)
    (q : ∀ σ', WAt σ' W (i + 1) → Ext W.x σ σ' → Q (.tup [.tup [.str x, .tup [], .tup []]]) σ') (L : Addr) :
    JS (calleeFc c 232 L ["words", "is_expr", "found"] ["read_segment", "tuple"]) (Lv [("words", .loc W.x), ("is_expr", .bool b)]) (bodyOf 232) σ (Ret Q) X := by
  have hi : i + 1 ≤ W.ts.length := by have := a.le; simp at this; (first | lia | omega)
  conv => arg 3; whnf
  repeat k_memK
  refine E_fn rfl g_read_segment rfl ?_
  repeat k_memK
  refine segment_ok h a hx (calleeN (by (first | lia | omega))) _ h1 h2 ?_
  repeat k_memK
  intro F hF
  have h2' := (h.to (i + 1)).new hF (cl := .list [.tup [.str x, .tup [], .tup []]])
  try refine S_cons ?_
  refine S_while0 ?_
  repeat k_memK
  refine ⟨W, i + 1, rfl, h2', ?_⟩
  repeat k_memK
  refine looks0_ok h2' hi (calleeN (by (first | lia | omega))) ⟨_, rfl, h1, ?_⟩
  repeat k_memK
  refine call_tupL (as := [.tup [.str x, .tup [], .tup []]]) Store.set_same (by rw [sizeLine_eq]; simp) ?_
  exact retq (q _ h2' (Ext.set.trans (Ext.new hF)))
theorem spath_ok {W : Ws} {i : Nat} {x : Str} {p : Int} {b : Bool} (h : WAt σ W i) (a : At W i [nm x p]) (hx : x ∈ nms) (hn : 6 ≤ c.n) (h1 : (W.tok (i + 1)).is "::" = false) (h2 : b = false → (W.tok (i + 1)).is "<" = false)
    (q : ∀ σ', WAt σ' W (i + 1) → Ext W.x σ σ' → Q (.tup [.tup [.str x, .tup [], .tup []]]) σ') : CallJ c ρ (.ref 232) [.loc W.x, .bool b] σ Q X :=
  call_def0 c_read_spath b_read_spath (by (first | lia | omega)) ⟨rfl, rfl⟩ fun L => spath_core h a hx hn h1 h2 q L
theorem spath0_ok {W : Ws} {i : Nat} {x : Str} {p : Int} (h : WAt σ W i) (a : At W i [nm x p]) (hx : x ∈ nms) (hn : 6 ≤ c.n) (h1 : (W.tok (i + 1)).is "::" = false) (h2 : (W.tok (i + 1)).is "<" = false)
    (q : ∀ σ', WAt σ' W (i + 1) → Ext W.x σ σ' → Q (.tup [.tup [.str x, .tup [], .tup []]]) σ') : CallJ c ρ (.ref 232) [.loc W.x] σ Q X :=
  call_def1 c_read_spath d_read_spath (fun h => rfl) (by (first | lia | omega)) ⟨rfl, rfl⟩ fun L => spath_core h a hx hn h1 (fun _ => h2) q L
/-- the tree of a name -/
noncomputable def pathT (x : Str) (p : Int) : AV := .tup [.str "path", .int p, .tup [.tup [.str x, .tup [], .tup []]]]
theorem path_like_ok {W : Ws} {i : Nat} {x : Str} {p : Int} {b : Bool} (h : WAt σ W i) (a : At W i [nm x p]) (hx : x ∈ nms) (hn : 7 ≤ c.n) (h1 : (W.tok (i + 1)).is "::" = false) (h2 : (W.tok (i + 1)).is "{" = false)
    (q : ∀ σ', WAt σ' W (i + 1) → Ext W.x σ σ' → Q (pathT x p) σ') : CallJ c ρ (.ref 469) [.loc W.x, .bool b] σ Q X := by
  have hi : i + 1 ≤ W.ts.length := by have := a.le; simp at this; (first | lia | omega)
  refine call_def0 c_read_path_like b_read_path_like (by (first | lia | omega)) (ρ₀ := [("words", .loc W.x), ("no_struct", .bool b)]) ⟨rfl, rfl⟩ fun L => ?_
  conv => arg 3; whnf
  repeat k_memK
  refine ⟨W, i, rfl, h, peek0_ok h (by (first | lia | omega)) (calleeN (by (first | lia | omega))) ?_⟩
  rw [a.tok0]
  repeat k_memK
  refine E_fn rfl g_read_spath rfl ?_
  repeat k_memK
  refine spath_ok h a hx (calleeN (by (first | lia | omega))) h1 (fun e => by cases e) fun σ' h' ex => ?_
  repeat k_memK
  refine ⟨_, rfl, ?_⟩
  cases b with
  | true =>
    rw [if_pos rfl, if_pos rfl]
    repeat k_memK
    exact retq (q _ h' ex)
  | false =>
    rw [if_neg (by decide)]
    repeat k_memK
    refine ⟨W, i + 1, rfl, h', ?_⟩
    repeat k_memK
    refine looks0_ok h' hi (calleeN (by (first | lia | omega))) ⟨_, rfl, ?_⟩
    rw [h2, if_pos (by decide), if_pos rfl]
    repeat k_memK
    exact retq (q _ h' ex)
end

/-! # Text WU -/
/-! # Unpacking -/
section
variable {prog : Program} {w : World} {A : Around} {E : Value → Shared → Prop} {s : Shared}
theorem draw_list {it t : Addr} {items : Array Value} (hne : t ≠ it) : ∀ (n i : Nat) (s : Shared) (Q : List Value → Shared → Prop), s.heap.IsListIter it t i → s.heap.IsList t items → i + n ≤ items.size →
    (∀ h', h'.IsListIter it t (i + n) → Heap.SameBut it s.heap h' → Q ((items.toList.drop i).take n) { s with heap := h' }) → wpAny (model prog w) A (draw (.ref it) n) Q E s
  | 0, i, s, Q, hit, _, _, hQ => by
    show wpAny _ _ (pure []) Q E s
    exact wpAny_pure (by simpa using hQ s.heap hit (Heap.SameBut.refl ..))
  | n + 1, i, s, Q, hit, ht, hle, hQ => by
    have hlt : i < items.size := by (first | lia | omega)
    show wpAny _ _ (pyNext (.ref it) >>= _) Q E s
    refine wpAny_bind (wpAny_pyNext_list_item hit ht (x := items[i]) (by simp [hlt]) fun h₁ hit₁ hs₁ => ?_)
    refine wpAny_bind (wpAny_holding (draw_list hne n (i + 1) _ _ hit₁ (ht.extBut hs₁.extBut hne) (by (first | lia | omega)) fun h₂ hit₂ hs₂ => wpAny_pure ?_))
    have hd : items.toList.drop i = items[i] :: items.toList.drop (i + 1) := by simp [List.drop_eq_getElem_cons, hlt]
    have := hQ h₂ (by rw [show i + (n + 1) = i + 1 + n by (first | lia | omega)]; exact hit₂) (hs₁.trans hs₂)
    rw [hd, List.take_succ_cons] at this
    exact this
theorem unpackItems_list {t : Addr} {items : Array Value} {Q : List Value → Shared → Prop} (hh : A.handled = none) (ht : s.heap.IsList t items)
    (hQ : ∀ h', Heap.ExtBut s.heap.objs.size s.heap h' → Q items.toList { s with heap := h' }) : wpAny (model prog w) A (unpackItems (.ref t) items.size none) Q E s := by
  have hlt : t ≠ s.heap.objs.size := by obtain ⟨o, ho, _⟩ := ht; exact Nat.ne_of_lt (Heap.lt_size ho)
  unfold unpackItems
  refine wpAny_bind ?_
  · unfold notIterableAtAll
    refine wpAny_bind (wpAny_specialOf ht.typeIs PySem.slot_list_iter.lookup ?_)
    refine wpAny_pure ?_
    simp only [Bool.false_eq_true, if_false]
    refine wpAny_bind (wpAny_holding (wpAny_pyIter_list ht ?_))
    refine wpAny_bind (wpAny_holding (draw_list hlt items.size 0 _ _ ⟨_, Heap.get?_push_size _ rfl, rfl, rfl⟩ (ht.push _) (by (first | lia | omega)) fun h₁ hit₁ hs₁ => ?_))
    have hall : List.take items.size (List.drop 0 items.toList) = items.toList := by
      rw [List.drop_zero]; exact List.take_of_length_le (by simp)
    rw [hall]
    rw [if_neg (by simp)]
    have ht₁ : h₁.IsList t items := (ht.push _).extBut hs₁.extBut hlt
    refine wpAny_bind (wpAny_holding (wpAny_pyNext_list_end hh hit₁ ht₁ (by simp) fun h₂ he₂ => ?_))
    simp only [Option.isSome_none, Bool.false_eq_true, if_false]
    refine wpAny_pure (hQ h₂ fun b o hb e => he₂ b o hb (hs₁.extBut b o hb (Heap.get?_push_of_some _ e)))
end
/-- the items of a tuple or of a list -/
noncomputable def Items (σ : Store) : AV → List AV → Prop
  | .tup as, bs => bs = as
  | .loc a, bs => σ a = some (.list bs)
  | _, _ => False
section
variable {c : Fc} {ρ : List (Str × AV)} {P : List (Value × AV)} {σ : Store} {Q : Fl → List (Str × AV) → Store → Prop} {X : Store → Prop}
theorem items_ {n : Nat} {A : Around} {outer : List Env} {s : Shared} {v : Value} {a : AV} {as : List AV} (hn : n = as.length) {Q' : List Value → Shared → Prop} {E' : Value → Shared → Prop} (F : InFr c ρ P A outer s σ) (r : VRel s.heap v a) (hi : Items σ a as)
    (q : ∀ vs h', (∀ b o, s.heap.get? b = some o → h'.get? b = some o) → VRels h' vs as → Q' vs { s with heap := h' }) : wpAny (model pw c.w) A (unpackItems v n none) Q' E' s := by
  subst hn
  cases a with
  | tup bs =>
    obtain rfl : as = bs := hi
    obtain ⟨t, o, n, vs, rfl, g, cl, d, rs⟩ := r
    have T : IsTup s.heap t vs.toArray := ⟨o, g, cl, n, d⟩
    rw [show as.length = vs.toArray.size by rw [List.size_toArray, rs.length]]
    refine unpackItems_tuple F.handled T fun h' hk => ?_
    have k : ∀ b o, s.heap.get? b = some o → h'.get? b = some o := fun b o e => hk b o (Nat.ne_of_lt (Heap.lt_size e)) e
    exact q _ h' k (by rw [List.toList_toArray]; exact rs.mono (fun b o e _ => k b o e) as)
  | loc t =>
    obtain rfl : v = .ref t := r
    obtain ⟨o, n, vs, g, cl, _, d, rs⟩ := cell_at F hi
    have T : s.heap.IsList t vs.toArray := ⟨o, g, cl, n, d⟩
    rw [show as.length = vs.toArray.size by rw [List.size_toArray, rs.length]]
    refine unpackItems_list F.handled T fun h' hk => ?_
    have k : ∀ b o, s.heap.get? b = some o → h'.get? b = some o := fun b o e => hk b o (Nat.ne_of_lt (Heap.lt_size e)) e
    exact q _ h' k (by rw [List.toList_toArray]; exact rs.mono (fun b o e _ => k b o e) as)
  | _ => exact hi.elim
theorem S_pair {x y : Str} {px py tp pos : Pos} {k : Nat} {value : Expr} (hx : c.loc.contains x = true) (hy : c.loc.contains y = true) (h : Ev c ρ [] value σ (fun a σ₁ => ∃ a1 a2, Items σ₁ a [a1, a2] ∧ Q .next (upd (upd ρ x a1) y a2) σ₁) X)
    (hs : swapsWithSole [.Tuple [.Name x px, .Name y py] k tp] value pos.line c.env = pure false) (hw : swappedStores [.Tuple [.Name x px, .Name y py] k tp] value c.env = pure none) : J1 c ρ (.Assign [.Tuple [.Name x px, .Name y py] k tp] value pos) σ Q X := fun A outer s F =>
  Assign_Tuple (h.go F (fun v a s₁ σ₁ G r ⟨a1, a2, hi, q⟩ => by
    have F₁ := F.stepL G
    show wpAny _ _ (do standAt tp; let items ← holding [v] (unpackItems v 2 none); assignInOrder [assign (.Name x px) c.env, assign (.Name y py) c.env] items) _ _ s₁
    refine wpAny_bind (wpAny_standAt ?_)
    refine wpAny_bind (wpAny_holding (items_ (n := 2) rfl F₁ r hi fun vs h' hk rs => ?_))
    have G2 : Good c.w c.H none s₁ σ₁ { s₁ with heap := h' } σ₁ := .keep F₁.ok ⟨rfl, rfl, rfl⟩ hk
    have F₂ := F₁.stepL G2
    obtain ⟨v1, v2, rfl, r1, r2⟩ := vrels2 rs
    show wpAny _ _ (do holding [v2] (assign (.Name x px) c.env v1); (do holding [] (assign (.Name y py) c.env v2); pure ())) _ _ _
    have F₂' : InFr c ρ [(v2, a2)] A outer { s₁ with heap := h' } σ₁ := { F₂ with pend := fun p hp => by cases List.mem_singleton.mp hp; exact r2 }
    refine wpAny_bind (wpAny_holding (wpAny_assign_Name ?_))
    refine storeName_ hx F₂' r1 fun s₃ F₃ G₃ => ?_
    refine wpAny_bind (wpAny_holding (wpAny_assign_Name (storeName_ hy F₃.bare (F₃.pend _ (.head _)) fun s₄ F₄ G₄ => wpAny_pure ?_)))
    exact ⟨.next, _, σ₁, ((G.trans G2 noneK).up.trans G₃ (frameK F₂)).trans G₄ (frameK F₃.bare), F₄, trivial, q⟩) fun _ _ x => SExc.of x) hs hw
/-- two names from a display of two, stored in the other order -/
theorem S_pairW {x y : Str} {px py tp pos : Pos} {k : Nat} {value : Expr} (hx : c.loc.contains x = true) (hy : c.loc.contains y = true) (h : Ev c ρ [] value σ (fun a σ₁ => ∃ a1 a2, Items σ₁ a [a1, a2] ∧ Q .next (upd (upd ρ y a2) x a1) σ₁) X)
    (hs : swapsWithSole [.Tuple [.Name x px, .Name y py] k tp] value pos.line c.env = pure false) (hw : swappedStores [.Tuple [.Name x px, .Name y py] k tp] value c.env = pure (some [x, y])) : J1 c ρ (.Assign [.Tuple [.Name x px, .Name y py] k tp] value pos) σ Q X := fun A outer s F =>
  Assign_Tuple_swapped (names := [x, y]) (h.go F (fun v a s₁ σ₁ G r ⟨a1, a2, hi, q⟩ => by
    have F₁ := F.stepL G
    refine items_ (n := 2) rfl F₁ r hi fun vs h' hk rs => ?_
    have G2 : Good c.w c.H none s₁ σ₁ { s₁ with heap := h' } σ₁ := .keep F₁.ok ⟨rfl, rfl, rfl⟩ hk
    have F₂ := F₁.stepL G2
    obtain ⟨v1, v2, rfl, r1, r2⟩ := vrels2 rs
    show wpAny _ _ (do holding [v1] (bindName c.env y v2); (do holding [] (bindName c.env x v1); pure ())) _ _ _
    have F₂' : InFr c ρ [(v1, a1)] A outer { s₁ with heap := h' } σ₁ := { F₂ with pend := fun p hp => by cases List.mem_singleton.mp hp; exact r1 }
    refine wpAny_bind (wpAny_holding (wpAny_bindName (storeName_ hy F₂' r2 fun s₃ F₃ G₃ => ?_)))
    refine wpAny_bind (wpAny_holding (wpAny_bindName (storeName_ hx F₃.bare (F₃.pend _ (.head _)) fun s₄ F₄ G₄ => wpAny_pure ?_)))
    exact ⟨.next, _, σ₁, ((G.trans G2 noneK).up.trans G₃ (frameK F₂)).trans G₄ (frameK F₃.bare), F₄, trivial, q⟩) fun _ _ x => SExc.of x) hs hw
end

/-! # Text WPE -/
structure Fresh (W : Ws) (σ : Store) (F : Addr) : Prop where
  x : F ≠ W.x
  L : F ≠ W.L
  d : F ≠ W.d
  n : σ F = none
theorem WAt.fresh {σ₀ σ₁ : Store} {W : Ws} {j : Nat} {F : Addr} (h : WAt σ₁ W j) (hF : σ₁ F = none) (ex : Ext W.x σ₀ σ₁) : Fresh W σ₀ F := by
  have nx : F ≠ W.x := fun q => by rw [q, h.obj] at hF; cases hF
  refine ⟨nx, (fun q => by rw [q, h.rows] at hF; cases hF), (fun q => by rw [q, h.own] at hF; cases hF), ?_⟩
  cases e : σ₀ F with
  | none => rfl
  | some c => rw [ex F c nx e] at hF; cases hF
theorem WAt.put {σ₀ σ : Store} {W : Ws} {i : Nat} {F : Addr} (h : WAt σ W i) (f : Fresh W σ₀ F) {cl : Cell} : WAt (σ.set F cl) W i :=
  ⟨(Store.set_ne (Ne.symm f.x)).trans h.obj, (Store.set_ne (Ne.symm f.L)).trans h.rows, (Store.set_ne (Ne.symm f.d)).trans h.own, h.some, h.fits⟩
theorem Ext.put {x : Addr} {W : Ws} {σ σ' : Store} {F : Addr} (h : Ext x σ σ') (f : Fresh W σ F) {cl : Cell} : Ext x σ (σ'.set F cl) := fun a c n e => (Store.set_ne fun q => by rw [q, f.n] at e; cases e).trans (h a c n e)
section
variable {c : Fc} {ρ : List (Str × AV)} {P : List (Value × AV)} {σ : Store} {Q : AV → Store → Prop} {X : Store → Prop}
theorem S_while1 {ρ : List (Str × AV)} {test : Expr} {body : List Stmt} {pos : Pos} {Q : Fl → List (Str × AV) → Store → Prop}
    (h : Tst c ρ [] test σ (fun b σ₁ => if b then JS c ρ body σ₁ (loopQ (fun _ _ => False) Q) X else Q .next ρ σ₁) X) : J1 c ρ (.While test body [] pos) σ Q X :=
  S_while (fun _ ρ' σ' => ρ' = ρ ∧ σ' = σ) (fun n ρ' σ' ⟨e, e'⟩ => by
    subst e e'
    refine h.mono (fun b σ₁ q => ?_) fun _ x => x
    cases b with
    | false => exact q
    | true => exact JT.mono q (fun fl ρ σ q => by cases fl <;> first | exact q | exact q.elim) fun _ x => x) 0 ⟨rfl, rfl⟩
theorem type_ok {W : Ws} {i : Nat} {x : Str} {p : Int} (h : WAt σ W i) (a : At W i [nm x p]) (hx : x ∈ nms) (hn : 7 ≤ c.n) (h1 : (W.tok (i + 1)).is "::" = false) (h2 : (W.tok (i + 1)).is "<" = false)
    (q : ∀ σ', WAt σ' W (i + 1) → Ext W.x σ σ' → Q (pathT x p) σ') : CallJ c ρ (.ref 205) [.loc W.x] σ Q X := by
  have hi : i ≤ W.ts.length := by have := a.le; (first | lia | omega)
  have h0 : ∀ s, nms.all (fun y => !(y == s)) = true → (W.tok i).is s = false := fun s hs => by
    rw [a.tok0]; unfold Tk.is; rw [nm_ne hx hs]; exact Bool.and_false _
  have lk : ∀ {c' : Fc} {ρ' : List (Str × AV)} {s : Str} {Q' : AV → Store → Prop}, 2 ≤ c'.n → nms.all (fun y => !(y == s)) = true → Q' (.bool false) σ → CallJ c' ρ' (.ref 169) [.loc W.x, .str s] σ Q' X := fun hn' hs q' => looks0_ok h hi hn' (by rw [h0 _ hs]; exact q')
  refine call_def0 c_read_type b_read_type (by (first | lia | omega)) (ρ₀ := [("words", .loc W.x)]) ⟨rfl, rfl⟩ fun L => ?_
  conv => arg 3; whnf
  repeat k_memK
  refine ⟨W, i, rfl, h, peek0_ok h hi (calleeN (by (first | lia | omega))) ?_⟩
  rw [a.tok0]
  repeat k_memK
  refine ⟨W, i, rfl, h, ?_⟩
  repeat k_memK
  refine lk (calleeN (by (first | lia | omega))) (by decide) ⟨_, rfl, ?_⟩
  rw [if_neg (by decide)]
  refine S_nil ?_
  repeat k_memK
  refine ⟨W, i, rfl, h, ?_⟩
  repeat k_memK
  refine lk (calleeN (by (first | lia | omega))) (by decide) ⟨_, rfl, ?_⟩
  rw [if_neg (by decide)]
  repeat k_memK
  refine ⟨W, i, rfl, h, ?_⟩
  repeat k_memK
  refine lk (calleeN (by (first | lia | omega))) (by decide) ⟨_, rfl, ?_⟩
  rw [if_neg (by decide)]
  refine All_or_nil ?_
  rw [if_neg (by decide)]
  refine S_nil ?_
  repeat k_memK
  refine ⟨W, i, rfl, h, ?_⟩
  repeat k_memK
  refine lk (calleeN (by (first | lia | omega))) (by decide) ⟨_, rfl, ?_⟩
  rw [if_neg (by decide)]
  refine S_nil ?_
  repeat k_memK
  refine ⟨W, i, rfl, h, ?_⟩
  repeat k_memK
  refine lk (calleeN (by (first | lia | omega))) (by decide) ⟨_, rfl, ?_⟩
  rw [if_neg (by decide)]
  refine S_nil ?_
  repeat k_memK
  refine ⟨W, i, rfl, h, ?_⟩
  repeat k_memK
  refine lk (calleeN (by (first | lia | omega))) (by decide) ⟨_, rfl, ?_⟩
  rw [if_neg (by decide)]
  refine S_nil ?_
  repeat k_memK
  refine E_fn rfl g_read_spath rfl ?_
  repeat k_memK
  refine spath0_ok h a hx (calleeN (by (first | lia | omega))) h1 h2 fun σ' h' ex => ?_
  repeat k_memK
  exact retq (q _ h' ex)
theorem paren_type_ok {W : Ws} {i : Nat} {x : Str} {p p0 p1 : Int} (h : WAt σ W i) (a : At W i [sg "(" p0, nm x p, sg ")" p1]) (hx : x ∈ nms) (hn : 8 ≤ c.n)
    (q : ∀ σ', WAt σ' W (i + 3) → Ext W.x σ σ' → Q (pathT x p) σ') : CallJ c ρ (.ref 212) [.loc W.x] σ Q X := by
  have hi := a.le
  simp only [List.length_cons, List.length_nil] at hi
  refine call_def0 c_read_paren_type b_read_paren_type (by (first | lia | omega)) (ρ₀ := [("words", .loc W.x)]) ⟨rfl, rfl⟩ fun L => ?_
  conv => arg 3; whnf
  repeat k_memK
  refine ⟨W, i, rfl, h, ?_⟩
  repeat k_memK
  refine expect_ok h (by (first | lia | omega)) (calleeN (by (first | lia | omega))) (by rw [a.tok0]; rfl) ?_
  rw [a.tok0]
  repeat k_memK
  try refine S_cons ?_
  refine S_pairW rfl rfl ?_ rfl rfl
  repeat k_memK
  intro F hF
  repeat k_memK
  refine ⟨_, _, rfl, ?_⟩
  have h1 := (h.to (i + 1)).new hF (cl := .list [])
  have ex1 : Ext W.x σ _ := Ext.set.trans (Ext.new hF (c := .list []))
  try refine S_cons ?_
  refine S_while1 ?_
  repeat k_memK
  refine ⟨W, i + 1, rfl, h1, ?_⟩
  repeat k_memK
  refine looks0_ok h1 (by (first | lia | omega)) (calleeN (by (first | lia | omega))) ⟨_, rfl, ?_⟩
  rw [show (W.tok (i + 1)).is ")" = false by rw [a.tok1]; unfold Tk.is; rw [nm_ne hx (by decide)]; exact Bool.and_false _, if_pos (by decide)]
  repeat k_memK
  refine ⟨F, [], rfl, Store.set_same, ?_⟩
  refine E_fn rfl g_read_type rfl ?_
  repeat k_memK
  have f := (h.to (i + 1)).fresh hF Ext.set
  have t2 : W.tok (i + 1 + 1) = sg ")" p1 := a.tok (k := 2) rfl
  refine type_ok h1 (At.take (b := [sg ")" p1]) a.tail) hx (calleeN (by (first | lia | omega))) (by rw [t2]; rfl) (by rw [t2]; rfl) fun σ' h' ex => ?_
  have hF' : σ' F = some (.list []) := ex F _ f.x Store.set_same
  have h2 := h'.put f (cl := .list ([] ++ [pathT x p]))
  have ex2 : Ext W.x σ (σ'.set F (.list ([] ++ [pathT x p]))) := (ex1.trans ex).put f
  refine ⟨[], hF', by simp, ?_⟩
  repeat k_memK
  refine ⟨W, i + 2, rfl, h2, ?_⟩
  repeat k_memK
  refine looks0_ok h2 (by (first | lia | omega)) (calleeN (by (first | lia | omega))) ?_
  rw [show (W.tok (i + 2)).is "," = false by rw [t2]; rfl]
  repeat k_memK
  refine ⟨_, rfl, ?_⟩
  rw [if_pos (by decide)]
  repeat k_memK
  refine ⟨W, i + 2, rfl, h2, ?_⟩
  repeat k_memK
  refine expect_ok h2 (by (first | lia | omega)) (calleeN (by (first | lia | omega))) (by rw [t2]; rfl) ?_
  have h3 := h2.to (i + 3)
  have ex3 : Ext W.x σ _ := ex2.trans (Ext.set (c := W.obj (i + 3)))
  have hF3 : ((σ'.set F (.list ([] ++ [pathT x p]))).set W.x (W.obj (i + 3))) F = some (.list [pathT x p]) := (Store.set_ne f.x).trans Store.set_same
  repeat k_memK
  refine call_lenL hF3 (by simp) ?_
  repeat k_memK
  refine cmp_I (b := true) rfl ?_
  rw [if_pos rfl]
  repeat k_memK
  refine ⟨_, rfl, ?_⟩
  rw [if_pos (by decide)]
  refine All_and_nil ?_
  rw [if_pos rfl]
  repeat k_memK
  refine sub_list (fun _ _ => ⟨_, rfl⟩) hF3 (by decide) (by decide) rfl ?_
  exact retq (q _ h3 ex3)
end

/-! # Text WPF -/
/-! # Levels -/
noncomputable def LEV : List (Str × Int) := [("||", 1), ("&&", 2), ("==", 3), ("!=", 3), ("<", 3), ("<=", 3), (">", 3), (">=", 3), ("|", 4), ("^", 5), ("&", 6), ("<<", 7), (">>", 7), ("+", 8), ("-", 8), ("*", 9), ("/", 9), ("%", 9)]
noncomputable def dvals (P : Params) : Nat → List (Str × Int) → List DictEntry
  | _, [] => []
  | n, (k, v) :: l => en P k n (.int v (n + 1)) :: dvals P (n + 3) l
theorem lev_is (P : Params) : (KO P).lookup 352 = some { cls := .type "dict", data := .dict (dvals P 752 LEV).toArray 18 } := by kernel_rfl
theorem dvals_keys (w : World) : ∀ (n : Nat) (l : List (Str × Int)), ∀ e ∈ dvals w.params n l, ∃ k, (strKind pw w).is k e.key = true ∧ e.hash = (strKind pw w).hash k
  | _, [], e, h => by cases h
  | n, (k, v) :: l, e, h => by
    rcases List.mem_cons.mp h with rfl | h
    · exact ⟨k, strKind_is pw w k n, rfl⟩
    · exact dvals_keys w (n + 3) l e h
theorem dvals_find (w : World) (k : Str) : ∀ (n : Nat) (l : List (Str × Int)), ∃ t, (((dvals w.params n l).find? fun e => (strKind pw w).is k e.key).map (·.val)) = (l.lookup k).map fun v => .int v t
  | _, [] => ⟨0, rfl⟩
  | n, (x, v) :: l => by
    obtain ⟨t, e⟩ := dvals_find w k (n + 3) l
    have q : (strKind pw w).is k (Value.str x n) = decide (k = x) := KeyKind.is_eq_decide (strKind_is pw w x n) k
    unfold dvals
    rw [List.find?_cons, List.lookup_cons]
    show ∃ t, Option.map _ (match (strKind pw w).is k (Value.str x n) with | true => _ | false => _) = _
    rw [q]
    by_cases h : k = x
    · subst h
      simp only [decide_true, beq_self_eq_true]
      exact ⟨n + 1, rfl⟩
    · simp only [h, decide_false, beq_eq_false_iff_ne.mpr h]
      exact ⟨t, e⟩
section
variable {c : Fc} {ρ : List (Str × AV)} {P : List (Value × AV)} {σ : Store} {Q : AV → Store → Prop} {X : Store → Prop}
/-- `LEVELS.get(e, n)` -/
theorem E_getlev {p apos pos : Pos} {a b : Expr} (hk : c.glo.contains "LEVELS" = true)
    (hbase : attributeBase (.Name "LEVELS" p) "get" c.env (eval (.Name "LEVELS" p) c.env) = eval (.Name "LEVELS" p) c.env) (hline : (apos.endLine == pos.line) = true)
    (htrees : backTo pos (starEach [a, b] c.env) = [(false, eval a c.env), (false, eval b c.env)])
    (h : Ev c ρ P a σ (fun ka σ₁ => ∃ k, ka = .str k ∧ Ev c ρ P b σ₁ (fun vb σ₂ => ∃ i, vb = .int i ∧ Q (.int ((LEV.lookup k).getD i)) σ₂) X) X) : Ev c ρ P (.Call (.Attribute (.Name "LEVELS" p) "get" apos) [a, b] [] pos) σ Q X := fun A outer s F => by
  refine wpAny_Call_method2_late hbase hline htrees ?_
  refine (E_gf (f := 352) (pos := p) (Q := fun a σ₁ => a = .val (.ref 352) ∧ σ₁ = σ) (X := X) (P := P) hk g_LEVELS ⟨rfl, rfl⟩).go F (fun v a' s₁ σ₁ G r ⟨e, e2⟩ => ?_) fun _ _ x => x
  subst e e2
  obtain rfl : v = .ref 352 := r
  have F₁ := F.step G (P' := P) fun p hp => .inl hp
  have ho := F₁.K _ _ (lev_is c.w.params)
  refine ⟨"dict", "dict.get", PySem.F.plainAttrs_dict, PySem.F.slot_dict_get, PySem.F.type_dict_get, ⟨_, ho, rfl⟩, fun a e => by cases e; exact ⟨_, ho, rfl⟩, ?_⟩
  refine wpAny_dict_get2 (knd := strKind pw c.w) (by decide) (h.go F₁ (fun kv ka s₂ σ₂ G₂ r₂ ⟨k, e, hb⟩ => ?_) (ExcPost.up G))
  subst e
  obtain ⟨t, rfl⟩ := r₂
  have F₂ := F₁.step G₂ (P' := P) fun p hp => .inl hp
  refine hb.go F₂ (fun dv vb s₃ σ₃ G₃ r₃ ⟨i, e, q⟩ => ?_) (ExcPost.up (G.trans G₂ noneK))
  subst e
  obtain ⟨t2, rfl⟩ := r₃
  have F₃ := F₂.step G₃ (P' := P) fun p hp => .inl hp
  obtain ⟨t3, e3⟩ := dvals_find c.w k 752 LEV
  refine ⟨k, fun k => findBy (strKind pw c.w).is (dvals c.w.params 752 LEV).toArray k, strKind_is pw c.w k t, ⟨_, _, _, F₃.K _ _ (lev_is c.w.params), ⟨rfl, rfl, rfl⟩, rfl, fun e he => dvals_keys c.w 752 LEV e (by simpa using he), fun _ => rfl⟩, ?_⟩
  have e4 : findBy (strKind pw c.w).is (dvals c.w.params 752 LEV).toArray k = (LEV.lookup k).map fun v => .int v t3 := by
    rw [← e3]; unfold findBy; rw [List.find?_toArray]
  refine ⟨.int ((LEV.lookup k).getD i), σ₃, ((G.trans G₂ noneK).trans G₃ noneK).trans (Good.keep (s' := { s₃ with toks := s₃.toks + 1 }) F₃.ok ⟨rfl, rfl, rfl⟩ fun _ _ e => e) noneK, ?_, q⟩
  show VRel _ ((findBy _ _ k).getD _) _
  rw [e4]
  cases LEV.lookup k with
  | none => exact ⟨_, rfl⟩
  | some v => exact ⟨_, rfl⟩
noncomputable def Tk.lev (t : Tk) : Int := if t.kind == "sign" then (LEV.lookup t.text).getD 0 else 0
theorem level_of_ok {t : Tk} (hn : 1 ≤ c.n) (q : Q (.int t.lev) σ) : CallJ c ρ (.ref 371) [t.av] σ Q X := by
  refine call_def0 c_level_of b_level_of hn (ρ₀ := [("word", t.av)]) ⟨rfl, rfl⟩ fun L => ?_
  conv => arg 3; whnf
  repeat k_memK
  unfold Tk.lev at q
  cases hk : t.kind == "sign" with
  | true =>
    rw [hk, if_pos rfl] at q
    rw [if_pos rfl]
    refine E_getlev rfl rfl rfl rfl ?_
    repeat k_memK
    refine ⟨_, rfl, ?_⟩
    repeat k_memK
    exact ⟨_, rfl, retq q⟩
  | false =>
    rw [hk, if_neg (by decide)] at q
    rw [if_neg (by decide)]
    repeat k_memK
    exact retq q
noncomputable def BLK : List Str := ["{", "if", "match", "loop", "while", "for"]
noncomputable def Tk.block (t : Tk) : Bool := t.kind == "region" || (strIn t.text BLK && strIn t.kind ["sign", "name"])
theorem block_like_ok {W : Ws} {i : Nat} (h : WAt σ W i) (hi : i ≤ W.ts.length) (hn : 2 ≤ c.n) (hb : (W.tok i).block = false) (q : Q (.bool false) σ) : CallJ c ρ (.ref 455) [.loc W.x] σ Q X := by
  refine call_def0 c_is_block_like b_is_block_like (by (first | lia | omega)) (ρ₀ := [("words", .loc W.x)]) ⟨rfl, rfl⟩ fun L => ?_
  unfold Tk.block at hb
  rw [Bool.or_eq_false_iff] at hb
  conv => arg 3; whnf
  repeat k_memK
  refine ⟨W, i, rfl, h, peek0_ok h hi (calleeN hn) ?_⟩
  repeat k_memK
  rw [hb.1, if_neg (by decide)]
  refine S_nil ?_
  repeat k_memK
  refine cmp_inTS (l := BLK) ?_
  refine ⟨_, rfl, ?_⟩
  cases hs : strIn (W.tok i).text BLK with
  | false => exact retq q
  | true =>
    rw [hs, Bool.true_and] at hb
    rw [if_pos rfl]
    repeat k_memK
    refine cmp_inTS (l := ["sign", "name"]) ?_
    rw [hb.2]
    exact retq q
end

/-! # Text WPG -/
/-- what a function of the parser does at a run of tokens: a tree, or the fault -/
noncomputable def Par (f : Addr) (more : List AV) (T : List Tk) (r : Option AV) (N : Nat) (Fol : List (Str × Str)) : Prop :=
  ∀ (c : Fc) (ρ : List (Str × AV)) (σ : Store) (Q : AV → Store → Prop) (X : Store → Prop) (W : Ws) (i : Nat), WAt σ W i → At W i T → (W.tok (i + T.length)).among Fol = true → N ≤ c.n →
    (∀ t, r = some t → ∀ σ', WAt σ' W (i + T.length) → Ext W.x σ σ' → Q t σ') → (r = none → ∀ σ', Ext W.x σ σ' → X σ') → CallJ c ρ (.ref f) (.loc W.x :: more) σ Q X
noncomputable def stops3 : List (Str × Str) := [("sign", ")"), ("sign", "]"), ("end", "")]
noncomputable def stops2 : List (Str × Str) := List.append [("sign", "="), ("sign", "+="), ("sign", "||"), ("sign", "&&"), ("sign", "=="), ("sign", "<"), ("sign", ">="), ("sign", "|"), ("sign", "^"), ("sign", "&"), ("sign", "<<"), ("sign", "+"), ("sign", "-"), ("sign", "*"), ("sign", "%")] stops3
noncomputable def stops1 : List (Str × Str) := ("name", "as") :: stops2
noncomputable def stops0 : List (Str × Str) := List.append [("sign", "."), ("sign", "("), ("sign", "[")] stops1
noncomputable def noStruct : AV := .bool false
section
variable {c : Fc} {ρ : List (Str × AV)} {P : List (Value × AV)} {σ : Store} {Q : AV → Store → Prop} {X : Store → Prop}
theorem nm_is {x s : Str} {p : Int} (hx : x ∈ nms) (k : nms.all (fun y => !(y == s)) = true) : (nm x p).is s = false := by
  unfold Tk.is; rw [nm_ne hx k]; exact Bool.and_false _
theorem nm_block {x : Str} {p : Int} (hx : x ∈ nms) : (nm x p).block = false := by
  unfold Tk.block
  rw [nm_in hx (l := BLK) (by decide)]; rfl
theorem prim_name {x : Str} {p : Int} (hx : x ∈ nms) : Par 462 [.bool false] [nm x p] (some (pathT x p)) 8 stops0 := fun c ρ σ Q X W i h a fo hn q _ => by
  have hi : i ≤ W.ts.length := by have := a.le; (first | lia | omega)
  refine call_def0 c_read_primary b_read_primary (by (first | lia | omega)) (ρ₀ := [("words", .loc W.x), ("no_struct", .bool false)]) ⟨rfl, rfl⟩ fun L => ?_
  conv => arg 3; whnf
  repeat k_memK
  refine ⟨W, i, rfl, h, peek0_ok h hi (calleeN (by (first | lia | omega))) ?_⟩
  rw [a.tok0]
  repeat k_memK
  refine E_fn rfl g_is_block_like rfl ?_
  repeat k_memK
  refine block_like_ok h hi (calleeN (by (first | lia | omega))) (by rw [a.tok0]; exact nm_block hx) ⟨_, rfl, ?_⟩
  rw [if_neg (by decide)]
  refine S_nil ?_
  repeat k_memK
  rw [if_neg (nt (by rfl))]
  refine S_nil ?_
  repeat k_memK
  rw [if_neg (nt (by rfl)), if_neg (by decide)]
  refine S_nil ?_
  repeat k_memK
  rw [if_neg (nt (by rfl)), if_neg (by decide)]
  refine S_nil ?_
  repeat k_memK
  rw [if_neg (nt (by rfl))]
  refine S_nil ?_
  repeat k_memK
  refine cmp_inTS (l := ["true", "false"]) ?_
  rw [nm_in hx (by decide), if_neg (by decide)]
  refine S_nil ?_
  repeat k_memK
  refine cmp_inTS (l := ["break", "continue", "return"]) ?_
  rw [nm_in hx (by decide), if_neg (by decide)]
  refine S_nil ?_
  repeat k_memK
  refine E_gl (v := .tup (MAC.map .str)) rfl g_MACROS t_MAC ?_
  refine cmp_inTS ?_
  rw [nm_in hx (by decide), if_neg (by decide), if_neg (by decide)]
  refine S_nil ?_
  repeat k_memK
  refine E_fn rfl g_read_path_like rfl ?_
  repeat k_memK
  refine path_like_ok h a hx (calleeN (by (first | lia | omega))) (among_is fo (by decide)) (among_is fo (by decide)) fun σ' h' ex => ?_
  exact retq (q _ rfl σ' h' ex)
theorem S_while2 {ρ : List (Str × AV)} {test : Expr} {body : List Stmt} {pos : Pos} {Q : Fl → List (Str × AV) → Store → Prop} (P2 : List (Str × AV) → Store → Prop)
    (h2 : ∀ ρ' σ', P2 ρ' σ' → Tst c ρ' [] test σ' (fun b σ₁ => if b then JS c ρ' body σ₁ (loopQ (fun _ _ => False) Q) X else Q .next ρ' σ₁) X)
    (h : Tst c ρ [] test σ (fun b σ₁ => if b then JS c ρ body σ₁ (loopQ P2 Q) X else Q .next ρ σ₁) X) : J1 c ρ (.While test body [] pos) σ Q X :=
  S_while (fun n ρ' σ' => (n = 1 ∧ ρ' = ρ ∧ σ' = σ) ∨ (n = 0 ∧ P2 ρ' σ')) (fun n ρ' σ' hI => by
    rcases hI with ⟨rfl, rfl, rfl⟩ | ⟨rfl, hp⟩
    · refine h.mono (fun b σ₁ q => ?_) fun _ x => x
      cases b with
      | false => exact q
      | true => exact JT.mono q (fun fl ρ σ q => by cases fl <;> first | exact q | exact ⟨0, by (first | lia | omega), .inr ⟨rfl, q⟩⟩) fun _ x => x
    · refine (h2 _ _ hp).mono (fun b σ₁ q => ?_) fun _ x => x
      cases b with
      | false => exact q
      | true => exact JT.mono q (fun fl ρ σ q => by cases fl <;> first | exact q | exact q.elim) fun _ x => x) 1 (.inl ⟨rfl, rfl, rfl⟩)
/-- what begins an operand -/
noncomputable def begins : List (Str × Str) := List.append (nms.map fun x => (("name" : Str), x)) [("sign", "("), ("sign", "-"), ("sign", "!"), ("sign", "*"), ("sign", "&")]
theorem paren_ok {T : List Tk} {r : Option AV} {N : Nat} {p0 p1 : Int} (hT : ∃ t l, T = t :: l ∧ t.among begins = true) (hP : Par 364 [] T r N stops3) : Par 483 [] (sg "(" p0 :: (T ++ [sg ")" p1])) r (N + 4) stops0 := fun c ρ σ Q X W i h a fo hn q qx => by
  have hi := a.le
  simp only [List.length_cons, List.length_append, List.length_nil] at hi
  have a1 : At W (i + 1) (T ++ [sg ")" p1]) := a.tail
  obtain ⟨t, l, eT, hb⟩ := hT
  have t1 : W.tok (i + 1) = t := by rw [eT] at a1; exact a1.tok0
  have t2 : W.tok (i + 1 + T.length) = sg ")" p1 := a1.drop.tok0
  refine call_def0 c_read_paren b_read_paren (by (first | lia | omega)) (ρ₀ := [("words", .loc W.x)]) ⟨rfl, rfl⟩ fun L => ?_
  conv => arg 3; whnf
  repeat k_memK
  refine ⟨W, i, rfl, h, ?_⟩
  repeat k_memK
  refine expect_ok h (by (first | lia | omega)) (calleeN (by (first | lia | omega))) (by rw [a.tok0]; rfl) ?_
  rw [a.tok0]
  repeat k_memK
  try refine S_cons ?_
  refine S_pairW rfl rfl ?_ rfl rfl
  repeat k_memK
  intro F hF
  repeat k_memK
  refine ⟨_, _, rfl, ?_⟩
  have h1 := (h.to (i + 1)).new hF (cl := .list [])
  have ex1 : Ext W.x σ _ := Ext.set.trans (Ext.new hF (c := .list []))
  try refine S_cons ?_
  refine S_while1 ?_
  repeat k_memK
  refine ⟨W, i + 1, rfl, h1, ?_⟩
  repeat k_memK
  refine looks0_ok h1 (by (first | lia | omega)) (calleeN (by (first | lia | omega))) ⟨_, rfl, ?_⟩
  rw [t1, among_is hb (by decide), if_pos (by decide)]
  repeat k_memK
  refine ⟨F, [], rfl, Store.set_same, ?_⟩
  refine E_fn rfl g_read_expr rfl ?_
  repeat k_memK
  have f := (h.to (i + 1)).fresh hF Ext.set
  refine hP _ _ _ _ _ W (i + 1) h1 a1.take (by rw [t2]; rfl) (calleeN (by (first | lia | omega))) (fun tr er σ' h' ex => ?_) (fun er σ' ex => qx er _ (ex1.trans ex))
  have hF' : σ' F = some (.list []) := ex F _ f.x Store.set_same
  have h2 := h'.put f (cl := .list ([] ++ [tr]))
  have ex2 : Ext W.x σ (σ'.set F (.list ([] ++ [tr]))) := (ex1.trans ex).put f
  refine ⟨[], hF', by simp, ?_⟩
  repeat k_memK
  refine ⟨W, _, rfl, h2, ?_⟩
  repeat k_memK
  refine looks0_ok h2 (by (first | lia | omega)) (calleeN (by (first | lia | omega))) ?_
  rw [t2]
  repeat k_memK
  refine ⟨_, rfl, ?_⟩
  rw [if_pos (by rfl)]
  repeat k_memK
  refine ⟨W, _, rfl, h2, ?_⟩
  repeat k_memK
  refine expect_ok h2 (by (first | lia | omega)) (calleeN (by (first | lia | omega))) (by rw [t2]; rfl) ?_
  have h3 := h2.to (i + 1 + T.length + 1)
  have ex3 : Ext W.x σ _ := ex2.trans (Ext.set (c := W.obj (i + 1 + T.length + 1)))
  have hF3 : ((σ'.set F (.list ([] ++ [tr]))).set W.x (W.obj (i + 1 + T.length + 1))) F = some (.list [tr]) := (Store.set_ne f.x).trans Store.set_same
  repeat k_memK
  refine call_lenL hF3 (by simp) ?_
  repeat k_memK
  refine cmp_I (b := true) rfl ?_
  rw [if_pos rfl]
  repeat k_memK
  refine ⟨_, rfl, ?_⟩
  rw [if_pos (by rfl)]
  refine All_and_nil ?_
  rw [if_pos rfl]
  repeat k_memK
  refine sub_list (fun _ _ => ⟨_, rfl⟩) hF3 (by decide) (by decide) rfl ?_
  have el : i + (sg "(" p0 :: (T ++ [sg ")" p1])).length = i + 1 + T.length + 1 := by simp; (first | lia | omega)
  exact retq (q tr er _ (by rw [el]; exact h3) ex3)
end

/-! # Text WPH -/
section
variable {c : Fc} {ρ : List (Str × AV)} {P : List (Value × AV)} {σ : Store} {Q : AV → Store → Prop} {X : Store → Prop}
theorem prim_paren {T : List Tk} {r : Option AV} {N : Nat} {p0 p1 : Int} (hT : ∃ t l, T = t :: l ∧ t.among begins = true) (hP : Par 364 [] T r N stops3) : Par 462 [.bool false] (sg "(" p0 :: (T ++ [sg ")" p1])) r (N + 5) stops0 := fun c ρ σ Q X W i h a fo hn q qx => by
  have hi : i ≤ W.ts.length := by have := a.le; (first | lia | omega)
  refine call_def0 c_read_primary b_read_primary (by (first | lia | omega)) (ρ₀ := [("words", .loc W.x), ("no_struct", .bool false)]) ⟨rfl, rfl⟩ fun L => ?_
  conv => arg 3; whnf
  repeat k_memK
  refine ⟨W, i, rfl, h, peek0_ok h hi (calleeN (by (first | lia | omega))) ?_⟩
  rw [a.tok0]
  repeat k_memK
  refine E_fn rfl g_is_block_like rfl ?_
  repeat k_memK
  refine block_like_ok h hi (calleeN (by (first | lia | omega))) (by rw [a.tok0]; rfl) ⟨_, rfl, ?_⟩
  rw [if_neg (by decide)]
  refine S_nil ?_
  repeat k_memK
  rw [if_neg (nt (by rfl))]
  refine S_nil ?_
  repeat k_memK
  rw [if_pos (by rfl)]
  repeat k_memK
  rw [if_pos (by rfl)]
  refine All_and_nil ?_
  rw [if_pos rfl]
  repeat k_memK
  refine E_fn rfl g_read_paren rfl ?_
  repeat k_memK
  exact paren_ok hT hP _ _ _ _ _ W i h a fo (calleeN (by (first | lia | omega))) (fun t e σ' h' ex => retq (q t e σ' h' ex)) qx
/-! ## What stands behind -/
noncomputable def AV.spot : AV → Option Int
  | .tup (_ :: .int s :: _) => some s
  | _ => Option.none
theorem spot_sub {slice : Expr} {a : AV} {s : Int} (hs : Plain slice) (e : a.spot = some s) (q : Q (.int s) σ) : SubJ c ρ slice a (.int 1) σ Q := by
  unfold AV.spot at e
  split at e
  · cases e; exact sub_t hs rfl q
  · cases e
theorem T_true {k : Nat} {pos : Pos} {Q : Bool → Store → Prop} (q : Q true σ) : Tst c ρ P (.Constant (.bool true) k pos) σ Q X := T_val (E_bool ⟨true, rfl, q⟩)
theorem post0 {b : AV} : Par 420 [b] [] (some b) 3 stops1 := fun c ρ σ Q X W i h a fo hn q _ => by
  have hi : i ≤ W.ts.length := by have := a.le; (first | lia | omega)
  have fo : (W.tok i).among stops1 = true := fo
  refine call_def0 c_read_postfix b_read_postfix (by (first | lia | omega)) (ρ₀ := [("words", .loc W.x), ("left", b)]) ⟨rfl, rfl⟩ fun L => ?_
  conv => arg 3; whnf
  try refine S_cons ?_
  refine S_while1 (T_true ?_)
  rw [if_pos rfl]
  repeat k_memK
  refine ⟨W, i, rfl, h, ?_⟩
  repeat k_memK
  refine looks0_ok h hi (calleeN hn) ⟨_, rfl, ?_⟩
  rw [among_is fo (by decide), if_neg (by decide)]
  repeat k_memK
  refine ⟨W, i, rfl, h, ?_⟩
  repeat k_memK
  refine looks0_ok h hi (calleeN hn) ⟨_, rfl, ?_⟩
  rw [among_is fo (by decide), if_neg (by decide)]
  repeat k_memK
  refine ⟨W, i, rfl, h, ?_⟩
  repeat k_memK
  refine looks0_ok h hi (calleeN hn) ⟨_, rfl, ?_⟩
  rw [among_is fo (by decide), if_neg (by decide)]
  repeat k_memK
  exact retq (q _ rfl σ h Ext.refl)
theorem cast0 {b : AV} : Par 399 [b] [] (some b) 3 stops2 := fun c ρ σ Q X W i h a fo hn q _ => by
  have hi : i ≤ W.ts.length := by have := a.le; (first | lia | omega)
  have fo : (W.tok i).among stops2 = true := fo
  refine call_def0 c_cast_behind b_cast_behind (by (first | lia | omega)) (ρ₀ := [("words", .loc W.x), ("left", b)]) ⟨rfl, rfl⟩ fun L => ?_
  conv => arg 3; whnf
  try refine S_cons ?_
  refine S_while1 ?_
  repeat k_memK
  refine ⟨W, i, rfl, h, ?_⟩
  repeat k_memK
  refine looks0_ok h hi (calleeN hn) ⟨_, rfl, ?_⟩
  rw [among_is fo (by decide), if_neg (by decide)]
  repeat k_memK
  exact retq (q _ rfl σ h Ext.refl)
theorem type_paren_ok {W : Ws} {i : Nat} {x : Str} {p p0 p1 : Int} (h : WAt σ W i) (a : At W i [sg "(" p0, nm x p, sg ")" p1]) (hx : x ∈ nms) (hn : 9 ≤ c.n)
    (q : ∀ σ', WAt σ' W (i + 3) → Ext W.x σ σ' → Q (pathT x p) σ') : CallJ c ρ (.ref 205) [.loc W.x] σ Q X := by
  have hi : i ≤ W.ts.length := by have := a.le; (first | lia | omega)
  refine call_def0 c_read_type b_read_type (by (first | lia | omega)) (ρ₀ := [("words", .loc W.x)]) ⟨rfl, rfl⟩ fun L => ?_
  conv => arg 3; whnf
  repeat k_memK
  refine ⟨W, i, rfl, h, peek0_ok h hi (calleeN (by (first | lia | omega))) ?_⟩
  rw [a.tok0]
  repeat k_memK
  refine ⟨W, i, rfl, h, ?_⟩
  repeat k_memK
  refine looks0_ok h hi (calleeN (by (first | lia | omega))) ⟨_, rfl, ?_⟩
  rw [a.tok0, if_pos (by rfl)]
  repeat k_memK
  refine E_fn rfl g_read_paren_type rfl ?_
  repeat k_memK
  exact paren_type_ok h a hx (calleeN (by (first | lia | omega))) fun σ' h' ex => retq (q σ' h' ex)
theorem cast1 {b : AV} {s p p0 p1 p2 : Int} (hb : b.spot = some s) : Par 399 [b] [nm "as" p, sg "(" p0, nm "T" p1, sg ")" p2] (some (.tup [.str "cast", .int s, b, pathT "T" p1])) 10 stops2 := fun c ρ σ Q X W i h a fo hn q _ => by
  have hi := a.le
  simp only [List.length_cons, List.length_nil] at hi
  have fo : (W.tok (i + 4)).among stops2 = true := fo
  refine call_def0 c_cast_behind b_cast_behind (by (first | lia | omega)) (ρ₀ := [("words", .loc W.x), ("left", b)]) ⟨rfl, rfl⟩ fun L => ?_
  conv => arg 3; whnf
  try refine S_cons ?_
  refine S_while2 (fun ρ' σ' => ρ' = Lv [("words", .loc W.x), ("left", .tup [.str "cast", .int s, b, pathT "T" p1])] ∧ WAt σ' W (i + 4) ∧ Ext W.x σ σ') ?_ ?_
  · rintro ρ' σ' ⟨rfl, h', ex⟩
    repeat k_memK
    refine ⟨W, _, rfl, h', ?_⟩
    repeat k_memK
    refine looks0_ok h' (by (first | lia | omega)) (calleeN (by (first | lia | omega))) ⟨_, rfl, ?_⟩
    rw [among_is fo (by decide), if_neg (by decide)]
    repeat k_memK
    exact retq (q _ rfl σ' h' ex)
  · repeat k_memK
    refine ⟨W, i, rfl, h, ?_⟩
    repeat k_memK
    refine looks0_ok h (by (first | lia | omega)) (calleeN (by (first | lia | omega))) ⟨_, rfl, ?_⟩
    rw [a.tok0, if_pos (by rfl)]
    repeat k_memK
    refine ⟨W, i, rfl, h, take_ok h (by (first | lia | omega)) (calleeN (by (first | lia | omega))) (by rw [a.tok0]; exact (by decide : ("name" : Str) ≠ "end")) ?_⟩
    repeat k_memK
    refine spot_sub (fun _ _ => ⟨_, rfl⟩) hb ?_
    repeat k_memK
    refine E_fn rfl g_read_type rfl ?_
    repeat k_memK
    refine type_paren_ok (h.to (i + 1)) a.tail (by decide) (calleeN (by (first | lia | omega))) fun σ' h' ex => ?_
    repeat k_memK
    refine S_nil ?_
    exact ⟨rfl, h', Ext.set.trans ex⟩
/-! ## Prefixes -/
noncomputable def head0 (t : Tk) : Bool := t.among (List.append (nms.map fun x => (("name" : Str), x)) [("sign", "(")])
theorem among_up {t : Tk} {l l' : List (Str × Str)} (h : t.among l = true) (k : ∀ p ∈ l, p ∈ l') : t.among l' = true := by
  obtain ⟨p, hp, e⟩ := List.any_eq_true.mp h
  exact List.any_eq_true.mpr ⟨p, k p hp, e⟩
theorem head0_of {t : Tk} (h : head0 t = true) : t.kind = "name" ∨ (t.kind = "sign" ∧ t.text = "(") := by
  have e := among_of h
  rcases List.mem_append.mp e with e | e
  · obtain ⟨x, _, e⟩ := List.mem_map.mp e
    exact .inl (congrArg Prod.fst e).symm
  · have e' := List.mem_singleton.mp e
    exact .inr ⟨congrArg Prod.fst e', congrArg Prod.snd e'⟩
theorem unary_base {T1 T2 : List Tk} {r1 : Option AV} {f : AV → AV} {N1 N2 : Nat} (hT : ∃ t l, T1 = t :: l ∧ head0 t = true) (h2 : T2 = [] ∨ ∃ t l, T2 = t :: l ∧ t.among stops0 = true) (hp : Par 462 [.bool false] T1 r1 N1 stops0) (hq : ∀ b, r1 = some b → Par 420 [b] T2 (some (f b)) N2 stops1) :
    Par 406 [.bool false] (T1 ++ T2) (r1.map f) (N1 + N2 + 3) stops1 := fun c ρ σ Q X W i h a fo hn q qx => by
  have hi : i ≤ W.ts.length := by have := a.le; (first | lia | omega)
  obtain ⟨t, l, eT, hb⟩ := hT
  have t0 : W.tok i = t := by rw [eT] at a; exact a.tok0
  have f1 : (W.tok (i + T1.length)).among stops0 = true := by
    rcases h2 with rfl | ⟨u, l2, rfl, hu⟩
    · rw [List.append_nil] at fo
      exact among_up fo fun p hp => .tail _ (.tail _ (.tail _ hp))
    · rw [a.drop.tok0]; exact hu
  refine call_def0 c_read_unary b_read_unary (by (first | lia | omega)) (ρ₀ := [("words", .loc W.x), ("no_struct", .bool false)]) ⟨rfl, rfl⟩ fun L => ?_
  conv => arg 3; whnf
  repeat k_memK
  refine ⟨W, i, rfl, h, peek0_ok h hi (calleeN (by (first | lia | omega))) ?_⟩
  rw [t0]
  repeat k_memK
  have tail : JS (calleeFc c 406 L ["words", "no_struct", "word", "inner"] ["read_unary", "read_borrow", "read_postfix", "read_primary"]) (upd [("words", .loc W.x), ("no_struct", .bool false)] "word" t.av) ((bodyOf 406).drop 3) σ (Ret Q) X := by
    conv => arg 3; whnf
    repeat k_memK
    refine E_fn rfl g_read_postfix rfl ?_
    repeat k_memK
    refine E_fn rfl g_read_primary rfl ?_
    repeat k_memK
    refine hp _ _ _ _ _ W i h a.take f1 (calleeN (by (first | lia | omega))) (fun b eb σ' h' ex => ?_) (fun eb σ' ex => qx (by rw [eb]; rfl) σ' ex)
    repeat k_memK
    refine hq b eb _ _ _ _ _ W _ h' a.drop (by rw [Nat.add_assoc, ← List.length_append]; exact fo) (calleeN (by (first | lia | omega))) (fun t et σ'' h'' ex2 => ?_) (fun e => by cases e)
    cases et
    exact retq (q _ (by rw [eb]; rfl) σ'' (by rw [List.length_append, ← Nat.add_assoc]; exact h'') (ex.trans ex2))
  rcases head0_of hb with hk | ⟨hk, hx⟩
  · rw [hk, if_neg (by decide), if_neg (by decide)]
    refine S_nil ?_
    repeat k_memK
    rw [hk, if_neg (by decide), if_neg (by decide)]
    refine S_nil ?_
    exact tail
  · rw [hk, if_pos (by decide)]
    repeat k_memK
    refine cmp_inTS (l := ["-", "!", "*"]) ?_
    rw [hx, if_neg (by decide), if_neg (by decide)]
    refine S_nil ?_
    repeat k_memK
    rw [hk, if_pos (by decide)]
    repeat k_memK
    refine cmp_inTS (l := ["&", "&&"]) ?_
    rw [hx, if_neg (by decide), if_neg (by decide)]
    refine S_nil ?_
    exact tail
/-- a sign ahead of an operand -/
theorem unary_sign {T : List Tk} {r : Option AV} {N : Nat} {s : Str} {p : Int} (hs : s ∈ (["-", "!", "*"] : List Str)) (hP : Par 406 [.bool false] T r N stops1) : Par 406 [.bool false] (sg s p :: T) (r.map fun t => .tup [.str "unary", .int p, .str s, t]) (N + 3) stops1 := fun c ρ σ Q X W i h a fo hn q qx => by
  have hi : i ≤ W.ts.length := by have := a.le; (first | lia | omega)
  have hS : strIn s ["-", "!", "*"] = true := List.any_eq_true.mpr ⟨s, hs, beq_self_eq_true _⟩
  refine call_def0 c_read_unary b_read_unary (by (first | lia | omega)) (ρ₀ := [("words", .loc W.x), ("no_struct", .bool false)]) ⟨rfl, rfl⟩ fun L => ?_
  conv => arg 3; whnf
  repeat k_memK
  refine ⟨W, i, rfl, h, peek0_ok h hi (calleeN (by (first | lia | omega))) ?_⟩
  rw [a.tok0]
  repeat k_memK
  rw [if_pos (by rfl)]
  repeat k_memK
  refine cmp_inTS (l := ["-", "!", "*"]) ?_
  rw [hS, if_pos rfl]
  refine All_and_nil ?_
  rw [if_pos rfl]
  repeat k_memK
  refine ⟨W, i, rfl, h, take_ok h hi (calleeN (by (first | lia | omega))) (by rw [a.tok0]; exact (by decide : ("sign" : Str) ≠ "end")) ?_⟩
  repeat k_memK
  refine E_fn rfl g_read_unary rfl ?_
  repeat k_memK
  have el : i + 1 + T.length = i + (sg s p :: T).length := by simp; (first | lia | omega)
  refine hP _ _ _ _ _ W (i + 1) (h.to (i + 1)) a.tail (by rw [el]; exact fo) (calleeN (by (first | lia | omega))) (fun t et σ' h' ex => ?_) (fun et σ' ex => qx (by rw [et]; rfl) σ' (Ext.set.trans ex))
  repeat k_memK
  exact retq (q _ (by rw [et]; rfl) σ' (by rw [← el]; exact h') (Ext.set.trans ex))
theorem borrow_ok {T : List Tk} {r : Option AV} {N : Nat} {p : Int} (hT : ∃ t l, T = t :: l ∧ t.among begins = true) (hP : Par 406 [.bool false] T r N stops1) : Par 413 [.int p, .bool false] T (r.map fun t => .tup [.str "borrow", .int p, .bool false, t]) (N + 3) stops1 := fun c ρ σ Q X W i h a fo hn q qx => by
  have hi : i ≤ W.ts.length := by have := a.le; (first | lia | omega)
  obtain ⟨t, l, eT, hb⟩ := hT
  have t0 : W.tok i = t := by rw [eT] at a; exact a.tok0
  refine call_def0 c_read_borrow b_read_borrow (by (first | lia | omega)) (ρ₀ := [("words", .loc W.x), ("spot", .int p), ("no_struct", .bool false)]) ⟨rfl, rfl⟩ fun L => ?_
  conv => arg 3; whnf
  repeat k_memK
  refine ⟨W, i, rfl, h, ?_⟩
  repeat k_memK
  refine looks0_ok h hi (calleeN (by (first | lia | omega))) ?_
  rw [t0, among_is hb (by decide)]
  repeat k_memK
  refine ⟨_, rfl, ?_⟩
  rw [if_neg (by decide)]
  refine S_nil ?_
  repeat k_memK
  refine E_fn rfl g_read_unary rfl ?_
  repeat k_memK
  refine hP _ _ _ _ _ W i h a fo (calleeN (by (first | lia | omega))) (fun t et σ' h' ex => ?_) (fun et σ' ex => qx (by rw [et]; rfl) σ' ex)
  repeat k_memK
  exact retq (q _ (by rw [et]; rfl) σ' h' ex)
theorem borrow_mut {T : List Tk} {r : Option AV} {N : Nat} {p p2 : Int} (hP : Par 406 [.bool false] T r N stops1) : Par 413 [.int p, .bool false] (nm "mut" p2 :: T) (r.map fun t => .tup [.str "borrow", .int p, .bool true, t]) (N + 3) stops1 := fun c ρ σ Q X W i h a fo hn q qx => by
  have hi : i ≤ W.ts.length := by have := a.le; (first | lia | omega)
  refine call_def0 c_read_borrow b_read_borrow (by (first | lia | omega)) (ρ₀ := [("words", .loc W.x), ("spot", .int p), ("no_struct", .bool false)]) ⟨rfl, rfl⟩ fun L => ?_
  conv => arg 3; whnf
  repeat k_memK
  refine ⟨W, i, rfl, h, ?_⟩
  repeat k_memK
  refine looks0_ok h hi (calleeN (by (first | lia | omega))) ?_
  rw [a.tok0]
  repeat k_memK
  refine ⟨_, rfl, ?_⟩
  rw [if_pos (by rfl)]
  repeat k_memK
  refine ⟨W, i, rfl, h, take_ok h hi (calleeN (by (first | lia | omega))) (by rw [a.tok0]; exact (by decide : ("name" : Str) ≠ "end")) ?_⟩
  refine S_nil ?_
  repeat k_memK
  refine E_fn rfl g_read_unary rfl ?_
  repeat k_memK
  have el : i + 1 + T.length = i + (nm "mut" p2 :: T).length := by simp; (first | lia | omega)
  refine hP _ _ _ _ _ W (i + 1) (h.to (i + 1)) a.tail (by rw [el]; exact fo) (calleeN (by (first | lia | omega))) (fun t et σ' h' ex => ?_) (fun et σ' ex => qx (by rw [et]; rfl) σ' (Ext.set.trans ex))
  repeat k_memK
  exact retq (q _ (by rw [et]; rfl) σ' (by rw [← el]; exact h') (Ext.set.trans ex))
theorem unary_ref {T : List Tk} {r : Option AV} {N : Nat} {p : Int} (hP : Par 413 [.int p, .bool false] T r N stops1) : Par 406 [.bool false] (sg "&" p :: T) r (N + 3) stops1 := fun c ρ σ Q X W i h a fo hn q qx => by
  have hi : i ≤ W.ts.length := by have := a.le; (first | lia | omega)
  refine call_def0 c_read_unary b_read_unary (by (first | lia | omega)) (ρ₀ := [("words", .loc W.x), ("no_struct", .bool false)]) ⟨rfl, rfl⟩ fun L => ?_
  conv => arg 3; whnf
  repeat k_memK
  refine ⟨W, i, rfl, h, peek0_ok h hi (calleeN (by (first | lia | omega))) ?_⟩
  rw [a.tok0]
  repeat k_memK
  rw [if_pos (by rfl)]
  repeat k_memK
  refine cmp_inTS (l := ["-", "!", "*"]) ?_
  rw [show strIn (sg "&" p).text ["-", "!", "*"] = false from (by decide : strIn "&" ["-", "!", "*"] = false), if_neg (by decide), if_neg (by decide)]
  refine S_nil ?_
  repeat k_memK
  rw [if_pos (by rfl)]
  repeat k_memK
  refine cmp_inTS (l := ["&", "&&"]) ?_
  rw [show strIn (sg "&" p).text ["&", "&&"] = true from (by decide : strIn "&" ["&", "&&"] = true), if_pos rfl]
  refine All_and_nil ?_
  rw [if_pos rfl]
  repeat k_memK
  refine ⟨W, i, rfl, h, take_ok h hi (calleeN (by (first | lia | omega))) (by rw [a.tok0]; exact (by decide : ("sign" : Str) ≠ "end")) ?_⟩
  repeat k_memK
  refine E_fn rfl g_read_borrow rfl ?_
  repeat k_memK
  have el : i + 1 + T.length = i + (sg "&" p :: T).length := by simp; (first | lia | omega)
  refine hP _ _ _ _ _ W (i + 1) (h.to (i + 1)) a.tail (by rw [el]; exact fo) (calleeN (by (first | lia | omega))) (fun t et σ' h' ex => ?_) (fun et σ' ex => qx et σ' (Ext.set.trans ex))
  repeat k_memK
  rw [if_pos (by rfl)]
  repeat k_memK
  exact retq (q _ et σ' (by rw [← el]; exact h') (Ext.set.trans ex))
/-- an operand without, or with a cast -/
theorem cast_ok {T1 T2 : List Tk} {r1 : Option AV} {f : AV → AV} {N1 N2 : Nat} (h2 : T2 = [] ∨ ∃ t l, T2 = t :: l ∧ t.among stops1 = true) (hp : Par 406 [.bool false] T1 r1 N1 stops1) (hq : ∀ b, r1 = some b → Par 399 [b] T2 (some (f b)) N2 stops2) :
    Par 392 [.bool false] (T1 ++ T2) (r1.map f) (N1 + N2 + 1) stops2 := fun c ρ σ Q X W i h a fo hn q qx => by
  have hi : i ≤ W.ts.length := by have := a.le; (first | lia | omega)
  have f1 : (W.tok (i + T1.length)).among stops1 = true := by
    rcases h2 with rfl | ⟨u, l2, rfl, hu⟩
    · rw [List.append_nil] at fo
      exact among_up fo fun p hp => .tail _ hp
    · rw [a.drop.tok0]; exact hu
  refine call_def0 c_read_cast b_read_cast (by (first | lia | omega)) (ρ₀ := [("words", .loc W.x), ("no_struct", .bool false)]) ⟨rfl, rfl⟩ fun L => ?_
  conv => arg 3; whnf
  repeat k_memK
  refine E_fn rfl g_cast_behind rfl ?_
  repeat k_memK
  refine E_fn rfl g_read_unary rfl ?_
  repeat k_memK
  refine hp _ _ _ _ _ W i h a.take f1 (calleeN (by (first | lia | omega))) (fun b eb σ' h' ex => ?_) (fun eb σ' ex => qx (by rw [eb]; rfl) σ' ex)
  repeat k_memK
  refine hq b eb _ _ _ _ _ W _ h' a.drop (by rw [Nat.add_assoc, ← List.length_append]; exact fo) (calleeN (by (first | lia | omega))) (fun t et σ'' h'' ex2 => ?_) (fun e => by cases e)
  cases et
  exact retq (q _ (by rw [eb]; rfl) σ'' (by rw [List.length_append, ← Nat.add_assoc]; exact h'') (ex.trans ex2))
end

/-! # Text WRX -/
/-! # The fault is made and raised -/
noncomputable def faultMro : List Value := [.ref 32, .type "Exception", .type "BaseException", .type "object"]
noncomputable abbrev faultCls : Obj := excClassObj (str "GrammarFault") (str "GrammarFault") 57 56 [.ref 32] faultMro true [] [] false none none (some (.ref 48)) none (some (.str (str "GrammarFault") 237)) (some (.str (str "GrammarFault") 245)) (some (.bool true)) "Exception.__new__"
theorem fault_is (P : Params) : (KO P).lookup 57 = some faultCls := by kernel_rfl
theorem fault_init (P : Params) : findIn (KO P) (.ref 57) "__init__" = some (some (.ref 29)) := by kernel_rfl
noncomputable abbrev excObj (t : Addr) (d : Option Addr) : Obj := { cls := .ref 57, dict := d, data := .fields #[.ref t, .none, .none, .none, .bool false, .none] }
section
variable {prog : Program} {w : World} {A : Around} {E : Value → Shared → Prop} {R : Result → Shared → Prop} {h : Heap} {g : Array GenState} {d : Drawn} {t : Nat} {os : OsState}
theorem fault_has (x : String) (hx : faultMro.contains (.type x) = true) : (Value.ref 57 :: faultMro).contains (.type x) = true := by rw [List.contains_cons, hx, Bool.or_true]
theorem fault_hasnt (x : String) (hx : faultMro.contains (.type x) = false) : (Value.ref 57 :: faultMro).contains (.type x) = false := by rw [List.contains_cons, hx]; rfl
theorem fault_new_check {rest : List Value} {Q : Unit → Shared → Prop} (hC : h.get? 57 = some faultCls) (hq : Q () ⟨h, g, d, t, os⟩) : wpAny (model prog w) A (checkBuiltinCall "Exception.__new__" ⟨.ref 57 :: rest, []⟩) Q E ⟨h, g, d, t, os⟩ := by
  have F := PySem.F.excBase_Exception
  have h1 := fault_has "Exception" (by decide)
  have hs := F.noStar
  simp only [checkBuiltinCall, F.newKind, F.newSplit, F.newRow]
  repeat (first | refine wpAny_loadPart_at hC ?_ | (refine wpAny_isSubtype_exc hC ?_; rw [h1]) | refine wpAny_staticBase_exc hC ?_ | refine wpAny_madeBy_exc hC ?_ | simp only [bne_self_eq_false, Bool.false_eq_true, if_false] | wp_step)
  exact hq
theorem fault_new {rest : List Value} (hC : h.get? 57 = some faultCls) (hr : rest.length ≤ sizeLine) (hq : R (.ok (.ret (.ref (h.objs.size + 1)))) ⟨(h.push { cls := .type "tuple", data := .seq rest.toArray }).push (excObj h.objs.size none), g, d, t, os⟩) :
    codeAny (model prog w) A (.builtin "Exception.__new__" ⟨.ref 57 :: rest, []⟩) R ⟨h, g, d, t, os⟩ := by
  have F := PySem.F.excBase_Exception
  have hends := F.ends
  have h1 := fault_has "Exception" (by decide)
  have h2 := fault_hasnt "AttributeError" (by decide)
  have h3 := fault_hasnt "NameError" (by decide)
  refine codeAny_builtinAt F.entry ?_
  unfold Builtin.«BaseException.__new__»
  refine PySem.wpAt_bind ?_
  show PySem.wpAt _ _ _ (stack >>= _) _ _ _
  refine PySem.wpAt_bind (PySem.wpAt_stack fun p below => PySem.wpAt_of_wpAny ?_)
  wp_walk
  refine PySem.wpAt_of_wpAny ?_
  rw [F.owner]
  repeat (first | with_reducible refine wpAny_madeHere_exc F.canon hC ?_ | with_reducible refine wpAny_loadPart_at hC ?_ | (with_reducible refine wpAny_isSubtype_exc hC ?_; first | rw [h1] | rw [h2] | rw [h3]) | wp_step)
  show R _ _
  rw [Heap.size_push]
  exact hq
theorem fault_type_call {rest : List Value} {Q : Fin → Shared → Prop} (X : (KO w.params).In h) (hr : rest.length ≤ sizeLine)
    (hq : wpAny (model prog w) A (call (.ref 29) (.ref (h.objs.size + 1) :: rest)) (fun r s' => r = .none ∧ Q (.done (.ret (.ref (h.objs.size + 1)))) s') E
      ⟨(h.push { cls := .type "tuple", data := .seq rest.toArray }).push (excObj h.objs.size none), g, d, t, os⟩) :
    wpAny (model prog w) A (Builtin.«type.__call__» ⟨.ref 57 :: rest, []⟩) Q E ⟨h, g, d, t, os⟩ := by
  have F := PySem.F.excBase_Exception
  have hC : h.get? 57 = some faultCls := X _ _ (fault_is _)
  unfold Builtin.«type.__call__»
  repeat (first | with_reducible refine wpAny_loadPart_at hC ?_ | with_reducible refine wpAny_madeBy_exc hC ?_ | wp_step)
  refine codeAny_call_builtin_code (Code.quiet_builtin _ F.quiet) (fault_new_check hC ?_)
  refine fault_new hC hr ?_
  show wpAny _ _ _ _ _ _
  have kp : ∀ b o, h.get? b = some o → ((h.push { cls := .type "tuple", data := .seq rest.toArray }).push (excObj h.objs.size none)).get? b = some o := fun b o e => Heap.get?_push_of_some _ (Heap.get?_push_of_some _ e)
  have X₁ : (KO w.params).In ((h.push { cls := .type "tuple", data := .seq rest.toArray }).push (excObj h.objs.size none)) := X.keeps kp
  have hC₁ := kp _ _ hC
  have hget : ((h.push { cls := .type "tuple", data := .seq rest.toArray }).push (excObj h.objs.size none)).get? (h.objs.size + 1) = some { cls := .ref 57, data := .fields #[.ref h.objs.size, .none, .none, .none, .bool false, .none] } := by
    have := Heap.get?_push_size (h := h.push { cls := .type "tuple", data := .seq rest.toArray }) (o := excObj h.objs.size none) rfl
    rw [Heap.size_push] at this; exact this
  have hcC : (Value.ref 57 :: faultMro).contains (.ref 57) = true := by decide
  unfold isInstance
  repeat (first | with_reducible refine wpAny_loadPart_at hget ?_ | (with_reducible refine wpAny_isSubtype_exc hC₁ ?_; rw [hcC]) | wp_step)
  show wpAny _ _ (typeLookup (.ref 57) _) _ _ _
  refine (looks_findIn X₁ (fault_init _)).here ?_
  refine wpAny_holding (wpAny_bind ?_)
  refine (bind_fn X₁ (.ref (h.objs.size + 1)) (by kernel_rfl)).here ?_
  refine wpAny_bind (wpAny_mono hq (fun r s' hr => ?_) fun _ _ x => x)
  obtain ⟨rfl, hQ⟩ := hr
  wp_walk
  exact hQ
theorem fault_call {rest : List Value} {Q : Value → Shared → Prop} (X : (KO w.params).In h) (hr : rest.length ≤ sizeLine)
    (hq : wpAny (model prog w) (A.under (.builtin "type.__call__" ⟨.ref 57 :: rest, []⟩)) (call (.ref 29) (.ref (h.objs.size + 1) :: rest)) (fun r s' => r = .none ∧ Q (.ref (h.objs.size + 1)) s') E
      ⟨(h.push { cls := .type "tuple", data := .seq rest.toArray }).push (excObj h.objs.size none), g, d, t, os⟩) :
    wpAny (model prog w) A (call (.ref 57) rest) Q E ⟨h, g, d, t, os⟩ := by
  have hC : h.get? 57 = some faultCls := X _ _ (fault_is _)
  have f1 := tc_lookup
  have f2 := tc_bind (.ref 57)
  have hT : (⟨h, g, d, t, os⟩ : Shared).TypeIs (.ref 57) "type" := ⟨_, hC, rfl⟩
  refine wpAny_call (codeAny_of_tree ?_)
  show wpAny _ _ (callAny (.ref 57) _) _ _ _
  repeat (any_goals (first | assumption | with_reducible refine wpAny_loadPart_at hC ?_ | wp_step))
  refine ⟨rfl, ?_⟩
  exact codeAny_call_builtin_at (Code.quiet_builtin _ (by decide +kernel)) entry_typeCall (wpAny_check_type_call_sub hC (fault_type_call X hr hq))
end
section
variable {prog : Program} {w : World} {A : Around} {E : Value → Shared → Prop} {R : Result → Shared → Prop} {h : Heap} {g : Array GenState} {d : Drawn} {t : Nat} {os : OsState}
set_option maxHeartbeats 1000000 in
theorem fault_base_init {e t0 : Addr} {rest : List Value} {Q : Value → Shared → Prop} (X : (KO w.params).In h) (hr : rest.length ≤ sizeLine) (he : h.get? e = some (excObj t0 none))
    (hq : ∀ h' T, (∀ b o, b ≠ e → h.get? b = some o → h'.get? b = some o) → h'.get? e = some (excObj T none) → Q .none ⟨h', g, d, t, os⟩) : wpAny (model prog w) A (call (.builtin "Exception.__init__") (.ref e :: rest)) Q E ⟨h, g, d, t, os⟩ := by
  have F := PySem.F.excBase_Exception
  have hC : h.get? 57 = some faultCls := X _ _ (fault_is _)
  have h1 := fault_has "Exception" (by decide)
  have hshort := F.noStar
  refine wpAny_call (codeAny_call_builtin F.init.plain F.initEntry ?_)
  have chk : ∀ {M : Model} {A : Around} {Q : Unit → Shared → Prop} {E : Value → Shared → Prop}, Q () ⟨h, g, d, t, os⟩ → wpAny M A (checkBuiltinCall "Exception.__init__" ⟨.ref e :: rest, []⟩) Q E ⟨h, g, d, t, os⟩ := fun {M A Q E} hq => by
    have he' : h.get? e = some { cls := .ref 57, data := .fields #[.ref t0, .none, .none, .none, .bool false, .none] } := he
    simp only [checkBuiltinCall, F.initKind, F.initSplit, F.initRow]
    repeat (first | with_reducible refine wpAny_loadPart_at he' ?_ | (with_reducible refine wpAny_isSubtype_exc hC ?_; rw [h1]) | wp_step)
    refine wpAny_onRaise ?_
    rw [show ∀ (a b : String) (n : Nat), Bind.check ⟨.positional, "*", "Exception", .self, [⟨"args", .varPos, false⟩]⟩ a b n (List.map (fun x => x.fst) ({ pos := Value.ref e :: rest } : Args).kw) = pure () from
      fun a b n => check_star_args _ _ _ _ _ _]
    exact wpAny_pure hq
  refine chk ?_
  have he' : h.get? e = some { cls := .ref 57, data := .fields #[.ref t0, .none, .none, .none, .bool false, .none] } := he
  wp_walk
  refine hq _ h.objs.size (fun b o nb hb => ?_) ?_
  · rw [Heap.get?_update_other _ _ (Ne.symm nb)]
    exact Heap.get?_push_of_some _ hb
  · rw [Heap.get?_update_self _ (Heap.get?_push_of_some _ he) rfl]
    rfl
/-- what an exception's own dict holds -/
noncomputable def OwnDict (h : Heap) (e : Addr) (m : Str → Option Value) (d : Option Addr) : Prop := (d = none ∧ ∀ n, m n = none) ∨ ∃ dx, d = some dx ∧ dx ≠ e ∧ h.Ns1 dx m
theorem fault_inst {e t0 : Addr} {dd : Option Addr} {m : Str → Option Value} (he : h.get? e = some (excObj t0 dd)) (hd : OwnDict h e m dd) : h.Inst e 57 m :=
  ⟨_, he, rfl, (fun c q => nomatch q), hd⟩
theorem fault_store_own {e t0 : Addr} {dd : Option Addr} {m : Str → Option Value} {ns : List Str} {name : Str} {v : Value} {tk : Tok} {Q : Fin → Shared → Prop} (X : (KO w.params).In h) (he : h.get? e = some (excObj t0 dd)) (hd : OwnDict h e m dd) (hw : Within m ns) (hn : ns.length ≤ 100)
    (hq : ∀ h' dx tk', (∀ b o, b ≠ e → dd ≠ some b → h.get? b = some o → h'.get? b = some o) → h'.get? e = some (excObj t0 (some dx)) → OwnDict h' e (fun y => if y = name then some v else m y) (some dx) → (dd = none → dx = h.objs.size) → (∀ b, dd = some b → dx = b) → Q (.done (.ret .none)) ⟨h', g, d, tk', os⟩) :
    wpAny (model prog w) A (Builtin.ObjectAttr.storeInOwnDict (.ref e) (.ref 57) (.str name tk) name v false) Q E ⟨h, g, d, t, os⟩ := by
  have hC : h.get? 57 = some faultCls := X _ _ (fault_is _)
  have hx : h.get? e = some { cls := .ref 57, dict := dd, data := .fields #[.ref t0, .none, .none, .none, .bool false, .none] } := he
  unfold Builtin.ObjectAttr.storeInOwnDict
  repeat (first | with_reducible refine wpAny_loadPart_at hx ?_ | with_reducible refine wpAny_loadPart_at hC ?_ | wp_step)
  rcases hd with ⟨rfl, hm⟩ | ⟨dx, rfl, hne, hns⟩
  · have hx₁ : (h.push { cls := .type "dict", data := .dict #[] }).get? e = some { cls := .ref 57, dict := none, data := .fields #[.ref t0, .none, .none, .none, .bool false, .none] } := Heap.get?_push_of_some _ hx
    have hxs : e ≠ h.objs.size := Nat.ne_of_lt (Heap.lt_size hx)
    refine wpAny_bind (wpAny_alloc' ?_)
    refine wpAny_bind (wpAny_update' hx₁ ?_)
    refine wpAny_pure ?_
    have hgd : ((h.push { cls := .type "dict", data := .dict #[] }).update e fun o => { cls := o.cls, dict := some h.objs.size, data := o.data, slots := o.slots }).get? h.objs.size
        = some { cls := .type "dict", data := .dict #[] } :=
      (Heap.get?_update_ne _ _ _ _ hxs.symm).trans (Heap.get?_push_at rfl rfl)
    have hnd : ((h.push { cls := .type "dict", data := .dict #[] }).update e fun o => { cls := o.cls, dict := some h.objs.size, data := o.data, slots := o.slots }).Ns h.objs.size (fun _ => none) :=
      ⟨_, #[], _, hgd, rfl, fun e he => absurd he (by simp), fun _ => rfl⟩
    show wpAny _ _ (Builtin.ObjectAttr.storeInDict h.objs.size (.str name tk) name v) _ _ _
    unfold Builtin.ObjectAttr.storeInDict Builtin.ObjectAttr.newKeyGuard
    refine wpAny_bind (wpAny_pure (wpAny_bind (wpAny_nsSet1 (Heap.Ns1.of_empty hnd) fun h' hn' hs => ?_)))
    obtain ⟨oD, esD, epD, hoD, hdD, hcD⟩ := hn'.count (Within.cons name v Within.nil)
    refine wpAny_bind (wpAny_lookBehind hoD (by rw [hdD]; exact pastItsLine_dict (Nat.le_trans hcD (by rw [List.length_cons, List.length_nil, sizeLine_eq]; (first | lia | omega)))) ?_)
    wp_walk
    refine hq h' h.objs.size _ (fun b o nb _ hb => ?_) ?_ (.inr ⟨_, rfl, hxs.symm, ?_⟩) (fun _ => rfl) (fun b q => nomatch q)
    · exact (hs.2 b (Nat.ne_of_lt (Heap.lt_size hb))).trans ((Heap.get?_update_ne _ _ _ _ nb).trans (Heap.get?_push_of_some _ hb))
    · exact (hs.2 e hxs).trans (Heap.get?_update_self _ hx₁ rfl)
    · obtain ⟨o', es, ep, e1, e2, e3, eu, e4⟩ := hn'
      exact ⟨o', es, ep, e1, e2, e3, eu, fun y => by rw [e4 y]; by_cases hy : y = name <;> simp [hy, hm]⟩
  · refine wpAny_pure ?_
    show wpAny _ _ (Builtin.ObjectAttr.storeInDict dx (.str name tk) name v) _ _ _
    unfold Builtin.ObjectAttr.storeInDict Builtin.ObjectAttr.newKeyGuard
    refine wpAny_bind (wpAny_pure (wpAny_bind (wpAny_nsSet1 hns fun h' hn' hs => ?_)))
    obtain ⟨oD, esD, epD, hoD, hdD, hcD⟩ := hn'.count (Within.cons name v hw)
    refine wpAny_bind (wpAny_lookBehind hoD (by rw [hdD]; exact pastItsLine_dict (Nat.le_trans hcD (by rw [List.length_cons, sizeLine_eq]; (first | lia | omega)))) ?_)
    wp_walk
    refine hq h' dx _ (fun b o nb hb hg => ?_) ?_ (.inr ⟨dx, rfl, hne, hn'⟩) (fun q => nomatch q) (fun b q => by cases q; rfl)
    · exact (hs.2 b fun q => hb (by rw [q])).trans hg
    · exact (hs.2 e hne.symm).trans hx
theorem fault_set {e t0 : Addr} {dd : Option Addr} {m : Str → Option Value} {ns : List Str} {name : Str} {v : Value} {Q : Unit → Shared → Prop} (X : (KO w.params).In h) (he : h.get? e = some (excObj t0 dd)) (hd : OwnDict h e m dd) (hw : Within m ns) (hn : ns.length ≤ 100)
    (hf : findIn (KO w.params) (.ref 57) name = some none)
    (hq : ∀ h' dx tk', (∀ b o, b ≠ e → dd ≠ some b → h.get? b = some o → h'.get? b = some o) → h'.get? e = some (excObj t0 (some dx)) → OwnDict h' e (fun y => if y = name then some v else m y) (some dx) → (dd = none → dx = h.objs.size) → (∀ b, dd = some b → dx = b) → Q () ⟨h', g, d, tk', os⟩) :
    wpAny (model prog w) A (setAttr (.ref e) name v) Q E ⟨h, g, d, t, os⟩ := by
  have SF := PySem.F.store_Exception
  have hC : h.get? 57 = some faultCls := X _ _ (fault_is _)
  have hsa : findIn (KO w.params) (.ref 57) "__setattr__" = some (some (.builtin "object.__setattr__")) := by kernel_rfl
  have f3 := SF.slot.bind (.ref e)
  have hx : h.get? e = some { cls := .ref 57, dict := dd, data := .fields #[.ref t0, .none, .none, .none, .bool false, .none] } := he
  have hL : Looks (model prog w) h (typeOf (.ref e)) (.ref 57) := (Looks.ld (part := some headPart) hx).andThen .now
  have ho : Looks (model prog w) h (isInstance (.ref e) (.type "object")) true := hL.andThen (looks_mroIn X (by kernel_rfl))
  unfold setAttr callSpecial? specialOf
  refine wpAny_bind (wpAny_mkText (wpAny_bind (wpAny_bind (wpAny_bind (hL.at (looks_findIn X hsa _ _ _ _ (fun _ _ e => e) (wpAny_holding ?_)))))))
  rw [f3]
  refine wpAny_bind (wpAny_pure (wpAny_bind (wpAny_call ?_)))
  refine codeAny_call_builtin SF.slot.plain SF.entry (@check_slot (model prog w) _ _ _ "object.__setattr__" "object" "__setattr__" (.ref e) [.str name t, v] [] _ SF.kind SF.split ho (SF.args (.ref e) (.str name t) v) ?_)
  show wpAny _ _ (Builtin.«object.__setattr__» ⟨[.ref e, .str name t, v], []⟩) _ _ _
  rw [osa_eq, refuse_eq]
  refine wpAny_bind (wpAny_bind (hL.here (wpAny_bind (wpAny_mroOf_exc hC ?_))))
  rw [refuseLoop_ref, show faultMro = .ref 32 :: [.type "Exception", .type "BaseException", .type "object"] from rfl, refuseLoop_ref, SF.passes]
  refine wpAny_pure (wpAny_bind (hL.here (wpAny_bind ((looks_findIn X hf).here (wpAny_bind ((Looks.now (M := model prog w) (a := none)).here ?_))))))
  refine fault_store_own X he hd hw hn fun h' dx tk' a b c d' f => ?_
  refine wpAny_pure (wpAny_pure ?_)
  exact hq h' dx tk' a b c d' f
end

/-! # Text WRS -/
/-! # A def is called, its body walked by hand -/
section
variable {c : Fc} {ρ : List (Str × AV)} {σ : Store}
theorem call_raw {a : Addr} {ps loc glo : List Str} (K : FnChk a ps loc glo) (B : Binds a ps []) (hn : 1 ≤ c.n) {as : List AV} (hl : as.length = ps.length) {A : Around} {outer : List Env} {s : Shared} {vals : List Value} (F : InFr c ρ [] A outer s σ) (rs : VRels s.heap vals as) {R : Result → Shared → Prop}
    (body : ∀ s0, (∀ b o, s.heap.get? b = some o → s0.heap.get? b = some o) → s0.gens = s.gens ∧ s0.drawn = s.drawn ∧ s0.os = s.os → InFr (calleeFc c a s.heap.objs.size loc glo) (ps.zip as) [] (A.deeper (callEnv (fdOf a) s.heap.objs.size a)) (c.env :: outer) s0 σ →
      wpAny (model pw c.w) (A.deeper (callEnv (fdOf a) s.heap.objs.size a)) (execs (bodyOf a) (callEnv (fdOf a) s.heap.objs.size a)) (fun f s' => R (.ok (.ret (match f with | .ret v => v | _ => .none))) s') (fun _ _ => False) s0) :
    codeAny (model pw c.w) A (.call (.ref a) ⟨vals, []⟩) R s := by
  have kk := K.ok
  simp only [Bool.and_eq_true, Bool.not_eq_true'] at kk
  obtain ⟨⟨⟨⟨⟨⟨⟨k1, k2⟩, k3⟩, k4⟩, k5⟩, k6⟩, k7⟩, k8⟩ := kk
  have kind : (fdOf a).scope.kind = .function := by revert k5; cases (fdOf a).scope.kind <;> first | (intro _; rfl) | (intro h; cases h)
  have hlv : vals.length = ps.length := rs.length.trans hl
  have ho : s.heap.get? a = some (rowOf a).obj := F.K _ _ (K.at_.obj _)
  have hcd : s.heap.CodeRec (fdOf a).code (fdOf a).qualname := by rw [K.code, K.qual]; exact (F.base.says.code _ K.at_.mem).keeps F.ok.stays
  have eb : (ps.zip vals ++ ([] : List (Str × Value × AV)).map fun e => (e.1, e.2.1)) = ps.zip vals := by simp
  have names : (ps.zip vals).map (·.1) = ps := List.map_fst_zip (by (first | lia | omega))
  have Bv := B _ s vals F.K hlv
  rw [eb] at Bv
  have isloc : ∀ {x : Str}, isLocal ((fdOf a).scope.names.lookup x) = true → (fdOf a).scope.names.lookup x = some .local := fun {x} h => by
    revert h
    cases (fdOf a).scope.names.lookup x with
    | none => intro h; cases h
    | some k => cases k <;> first | (intro _; rfl) | (intro h; cases h)
  have isglo : ∀ {x : Str}, isGlob ((fdOf a).scope.names.lookup x) = true → (fdOf a).scope.names.lookup x = some .globalImplicit := fun {x} h => by
    revert h
    cases (fdOf a).scope.names.lookup x with
    | none => intro h; cases h
    | some k => cases k <;> first | (intro _; rfl) | (intro h; cases h)
  have memc : ∀ {l : List Str} {x : Str}, l.contains x = true → x ∈ l := fun h => by simpa using h
  refine codeAny_call_def (by have := F.depth; show A.depth < 1000; (first | lia | omega)) ho K.data (F.base.lim.keeps F.ok.stays) hcd K.body Bv (fun x hx' => ?_) (fun x hx' => ?_) (fun h₀ hns hk => ?_) k6 k7 kind
  · have := List.all_eq_true.mp k1 x hx'
    intro q; rw [q] at this; cases this
  · have : x.1 ∈ ps := by rw [← names]; exact List.mem_map_of_mem hx'
    exact isloc (List.all_eq_true.mp k2 _ this)
  have G0 : Good c.w c.H none s σ ({ s with heap := h₀, toks := s.toks + (ps.zip vals).length } : Shared) σ := .keep F.ok ⟨rfl, rfl, rfl⟩ hk
  have lookups : ∀ x av, (ps.zip as).lookup x = some av → ∃ v, (ps.zip vals).reverse.lookup x = some v ∧ VRel h₀ v av := fun x av e => by
    have k8' : distinct ((ps.zip vals).map (·.1)) = true := by rw [names]; simpa using k8
    rw [lookup_rev k8']
    have := lookup_zip (ev := []) (ea := []) (rs.mono (fun b o e _ => hk b o e) as) hl.symm (fun x av e => by cases e) x av (by rw [List.append_nil]; exact e)
    rw [List.append_nil] at this; exact this
  refine wpAny_mono (body _ hk ⟨rfl, rfl, rfl⟩ ⟨⟨F.base.says, F.base.g, F.base.b, F.base.bi, F.base.lim, F.base.free⟩, F.handled, ?_, ?_, Around.frames_deeper F.frames, kind, rfl, K.glb, K.blt,
    Heap.FunFrames.cons (by show (fdOf a).scope.kind ≠ _; rw [kind]; decide) rfl hns (none_at_end F.ok.stays) (funFrames_keep F.stack fun e he L hf o ho => ⟨o, hk _ _ ho, id⟩), ?_, ⟨_, hns, lookups⟩, ?_,
    fun x h => isloc (List.all_eq_true.mp k3 _ (memc h)), fun x h => isglo (List.all_eq_true.mp k4 _ (memc h)), G0.ok, fun p hp => nomatch hp⟩) (fun _ _ x => x) fun _ _ x => x.elim
  · have h1 := F.depth
    have h2 : A.depth + 1 + 2 * (c.n - 1) + 2 ≤ 1000 := by (first | lia | omega)
    exact h2
  · have h1 := F.units
    have h2 : A.units + 3 + 20 * (c.n - 1) + 200 ≤ 9900 := by (first | lia | omega)
    exact h2
  · intro e he L hf
    rcases List.mem_cons.mp he with rfl | he
    · cases hf; exact F.ok.fresh
    · exact F.apart e he L hf
  · intro x av e
    refine isloc (List.all_eq_true.mp k2 _ ?_)
    have : ∀ {l : List (Str × AV)}, l.lookup x = some av → x ∈ l.map (·.1) := by
      intro l
      induction l with
      | nil => intro e; cases e
      | cons p l ih =>
        obtain ⟨z, w⟩ := p
        intro e
        rw [List.lookup_cons] at e
        rw [List.map_cons]
        cases q : x == z with
        | true => rw [eq_of_beq q]; exact .head _
        | false => rw [q] at e; exact .tail _ (ih e)
    have := this e
    rw [List.map_fst_zip (by (first | lia | omega))] at this; exact this
end
/-! ## The body of the fault's `__init__` -/
section
variable {c : Fc} {ρ : List (Str × AV)} {σ : Store}
theorem method_exc {A : Around} {E : Value → Shared → Prop} {s : Shared} {pl : Sem Bool} {w : World} {Q : Value × List Value → Shared → Prop} (X : (KO w.params).In s.heap) (h : Q (.builtin "Exception.__init__", []) { s with toks := s.toks + 1 }) : wpAny (model pw w) A (getMethod (.type "Exception") "__init__" pl) Q E s := by
  have hstub : opaqueClassAbove (.type "Exception") = pure none := by unfold opaqueClassAbove; dsimp only; rw [show Manifest.isStub "Exception" = false by decide +kernel]; rfl
  have L0 : Looks (model pw w) s.heap (typeOf (.type "Exception")) (.type "type") := Looks.of_pure (by kernel_rfl)
  have hg : findIn (KO w.params) (.type "type") "__getattribute__" = some (some (.builtin "type.__getattribute__")) := type_tga
  unfold getMethod specialOf
  refine wpAny_bind (wpAny_bind (L0.here ((looks_findIn X hg).here ?_)))
  dsimp only
  rw [if_pos canon_tga]
  refine wpAny_bind (wpAny_mono (Q := fun v => Q (v, [])) (E := E) ?_ (fun _ _ z => wpAny_pure z) fun _ _ z => z)
  have LO : Looks (model pw w) s.heap (opaqueClassAbove (.type "Exception")) none := Looks.of_pure hstub
  refine cls_open X LO L0 hg (looks_hook X (r := none) (by rfl)) (by show subIn (KO w.params) _ _ = _; rfl) (by kernel_rfl : findCls (KO w.params) (.type "Exception") (.type "type") "__init__" = some (.val (.builtin "Exception.__init__")))
    (wpAny_pure (by show wpAny _ _ (handedOut _) _ _ _; rw [handedOut_of (by rfl)]; exact wpAny_pure h))
theorem vrels_two {h : Heap} {vs : List Value} {u : Value} {a : AV} (r : VRels h vs [.val u, a]) : ∃ v, vs = [u, v] := by
  obtain ⟨x, _, rfl, r1, y, _, rfl, _, rfl⟩ := r
  obtain rfl : x = u := r1
  exact ⟨y, rfl⟩
noncomputable abbrev c29 (c : Fc) (L : Addr) : Fc := calleeFc c 29 L ["self", "message", "spot"] ["Exception"]
theorem init_raw {L e t0 : Addr} {m : Str} {i : Int} {A : Around} {outer : List Env} {s : Shared} {Q' : Flow → Shared → Prop} {E' : Value → Shared → Prop}
    (F : InFr (c29 c L) (Lv [("self", .val (.ref e)), ("message", .str m), ("spot", .int i)]) [] A outer s σ) (he : s.heap.get? e = some (excObj t0 none)) (hH : c.H.get? e = none) (hσ : σ e = none)
    (hfr : ∀ x ∈ (c29 c L).env :: outer, ∀ b, x.frame = some b → b ≠ e)
    (q : ∀ h' tk T dx, HeapOK c.w c.H h' σ → (∀ b o, b ≠ e → σ b = none → s.heap.get? b = some o → h'.get? b = some o) → h'.get? e = some (excObj T (some dx)) → Q' .next { s with heap := h', toks := tk }) :
    wpAny (model pw c.w) A (execs (bodyOf 29) (c29 c L).env) Q' E' s := by
  have notT : ∀ {h : Heap} {t1 : Addr} {dd : Option Addr}, h.get? e = some (excObj t1 dd) → ∀ b o, b = e → h.get? b = some o → ¬ Tup o := fun {h t1 dd} he b o q e1 t => by
    subst q; rw [he] at e1; cases e1; exact absurd t.1 (by intro z; cases z)
  have chg : ∀ {s₁ : Shared} {t1 : Addr} {dd : Option Addr} {h' : Heap} {tk : Nat}, InFr (c29 c L) (Lv [("self", .val (.ref e)), ("message", .str m), ("spot", .int i)]) [] A outer s₁ σ → s₁.heap.get? e = some (excObj t1 dd) → (∀ b o, b ≠ e → dd ≠ some b → s₁.heap.get? b = some o → h'.get? b = some o) →
      (∀ b, dd = some b → σ b = none ∧ c.H.get? b = none ∧ (∀ o, s₁.heap.get? b = some o → ¬ Tup o) ∧ ∀ x ∈ (c29 c L).env :: outer, ∀ L', x.frame = some L' → L' ≠ b) → InFr (c29 c L) (Lv [("self", .val (.ref e)), ("message", .str m), ("spot", .int i)]) [] A outer { s₁ with heap := h', toks := tk } σ :=
    fun {s₁ t1 dd h' tk} F₁ he k hd => F₁.change (fun b => b = e ∨ dd = some b) (fun b o nb q => k b o (fun z => nb (.inl z)) (fun z => nb (.inr z)) q)
      (fun b o q e1 => q.elim (fun z => notT he b o z e1) fun z => (hd b z).2.2.1 o e1) (fun b q => q.elim (fun z => by subst z; exact hσ) fun z => (hd b z).1) (fun b q => q.elim (fun z => by subst z; exact hH) fun z => (hd b z).2.1)
      (fun x hx L' hL q => q.elim (fun z => hfr x hx L' hL z) fun z => (hd L' z).2.2.2 x hx L' hL rfl)
  conv => arg 3; arg 1; whnf
  refine wpAny_execs_cons ?_
  refine wpAny_Expr_any ?_ (by rfl) (by rfl)
  refine methodCall_KW (pl := _) ?_
  refine J.go (c := c29 c L) (E_bi (c := c29 c L) (x := "Exception") (u := .type "Exception") (Q := fun a σ₁ => a = .val (.type "Exception") ∧ σ₁ = σ) (X := fun _ => False) rfl (by decide) (by kernel_rfl) ⟨rfl, rfl⟩) F (fun v a s₁ σ₁ G r ⟨e1, e2⟩ => ?_) (fun _ _ ⟨_, _, x⟩ => x.elim)
  replace e2 := e2.symm
  subst e1 e2
  obtain rfl : v = .type "Exception" := r
  have he₁ : s₁.heap.get? e = some (excObj t0 none) := G.evo e _ he hσ (fun q => nomatch q)
  have F₁ := F.stepL G
  refine method_exc F₁.K ?_
  have G2 : Good c.w c.H none s₁ σ { s₁ with toks := s₁.toks + 1 } σ := .keep F₁.ok ⟨rfl, rfl, rfl⟩ fun _ _ e => e
  have F₂ := F₁.stepL G2
  have eargs : Evs (c29 c L) (Lv [("self", .val (.ref e)), ("message", .str m), ("spot", .int i)]) [] ⟨5, 8, 5, 41⟩ [.Name "self" ⟨5, 27, 5, 31⟩, .Name "message" ⟨5, 33, 5, 40⟩] σ (fun as σ₂ => as = [.val (.ref e), .str m] ∧ σ₂ = σ) (fun _ => False) := by
    repeat k_memK
    exact ⟨rfl, rfl⟩
  refine Calls.callWith_builtin (by rfl) (evalArgs_plain (J.go (c := c29 c L) eargs F₂ (fun vs as s₂ σ₂ G3 rs ⟨e1, e2⟩ => ?_) (fun _ _ ⟨_, _, x⟩ => x.elim)))
  replace e2 := e2.symm
  subst e1 e2
  obtain ⟨msg, evs⟩ := vrels_two rs.1
  subst evs
  have F₃ := F₂.stepL G3
  have he₃ : s₂.heap.get? e = some (excObj t0 none) := G3.evo e _ he₁ hσ (fun q => nomatch q)
  have k2 : ∀ b o, σ b = none → s.heap.get? b = some o → s₂.heap.get? b = some o := fun b o n eo => G3.evo b o (G.evo b o eo n (fun q => nomatch q)) n (fun q => nomatch q)
  have r2 : s₂.gens = s.gens ∧ s₂.drawn = s.drawn ∧ s₂.os = s.os := ⟨G3.rest.1.trans G.rest.1, G3.rest.2.1.trans G.rest.2.1, G3.rest.2.2.trans G.rest.2.2⟩
  obtain ⟨h₂, g₂, d₂, tk₂, os₂⟩ := s₂
  refine fault_base_init (rest := [msg]) F₃.K (by rw [sizeLine_eq]; exact (by decide : 1 ≤ 16777216)) he₃ fun h₃ T k₃ he₄ => ?_
  have F₄ := chg (tk := tk₂) F₃ he₃ (fun b o nb _ => k₃ b o nb) (fun b q => nomatch q)
  show wpAny _ _ (execs _ (c29 c L).env) _ _ _
  refine wpAny_execs_cons ?_
  refine plainObj_wpAny_Assign_Attribute ?_ (by rfl)
  refine J.go (c := c29 c L) (E_loc (c := c29 c L) (v := .str m) (Q := fun a σ₂ => a = .str m ∧ σ₂ = σ) (X := fun _ => False) rfl ⟨rfl, rfl⟩) F₄ (fun v a s₃ σ₃ G4 r ⟨e1, e2⟩ => ?_) (fun _ _ ⟨_, _, x⟩ => x.elim)
  replace e2 := e2.symm
  subst e1 e2
  have F₅ := F₄.stepL G4
  refine J.go (c := c29 c L) (E_loc (c := c29 c L) (v := .val (.ref e)) (Q := fun a σ₂ => a = .val (.ref e) ∧ σ₂ = σ) (X := fun _ => False) rfl ⟨rfl, rfl⟩) F₅ (fun v2 a s₄ σ₄ G5 r2 ⟨e1, e2⟩ => ?_) (fun _ _ ⟨_, _, x⟩ => x.elim)
  replace e2 := e2.symm
  subst e1 e2
  obtain rfl : v2 = .ref e := r2
  have F₆ := F₅.stepL G5
  have he₆ : s₄.heap.get? e = some (excObj T none) := G5.evo e _ (G4.evo e _ he₄ hσ (fun q => nomatch q)) hσ (fun q => nomatch q)
  have k4 : ∀ b o, b ≠ e → σ b = none → s.heap.get? b = some o → s₄.heap.get? b = some o := fun b o nb n eo => G5.evo b o (G4.evo b o (k₃ b o nb (k2 b o n eo)) n (fun q => nomatch q)) n (fun q => nomatch q)
  have r4 : s₄.gens = s.gens ∧ s₄.drawn = s.drawn ∧ s₄.os = s.os := ⟨(G5.rest.1.trans G4.rest.1).trans r2.1, (G5.rest.2.1.trans G4.rest.2.1).trans r2.2.1, (G5.rest.2.2.trans G4.rest.2.2).trans r2.2.2⟩
  obtain ⟨h₄, g₄, d₄, tk₄, os₄⟩ := s₄
  refine fault_set (m := fun _ => none) F₆.K he₆ (.inl ⟨rfl, fun _ => rfl⟩) Within.nil (by decide) (by kernel_rfl) fun h₅ dx tk₅ k₅ he₇ od₅ hdx _ => ?_
  have hdx := hdx rfl
  have F₇ := chg (tk := tk₅) F₆ he₆ (fun b o nb nd => k₅ b o nb nd) (fun b q => nomatch q)
  have dσ : σ dx = none := by rw [hdx]; exact F₆.ok.fresh
  have dH : c.H.get? dx = none := by rw [hdx]; exact none_at_end F₆.ok.stays
  have dfr : ∀ x ∈ (c29 c L).env :: outer, ∀ L', x.frame = some L' → L' ≠ dx := fun x hx L' hL z => by
    obtain ⟨⟨o, eo⟩, _⟩ := F₆.frameThere hx hL
    rw [z, hdx] at eo
    exact absurd (Heap.lt_size eo) (Nat.lt_irrefl _)
  show wpAny _ _ (execs _ (c29 c L).env) _ _ _
  refine wpAny_execs_cons ?_
  refine plainObj_wpAny_Assign_Attribute ?_ (by rfl)
  refine J.go (c := c29 c L) (E_loc (c := c29 c L) (v := .int i) (Q := fun a σ₂ => a = .int i ∧ σ₂ = σ) (X := fun _ => False) rfl ⟨rfl, rfl⟩) F₇ (fun v3 a s₅ σ₅ G6 r3 ⟨e1, e2⟩ => ?_) (fun _ _ ⟨_, _, x⟩ => x.elim)
  replace e2 := e2.symm
  subst e1 e2
  have F₈ := F₇.stepL G6
  refine J.go (c := c29 c L) (E_loc (c := c29 c L) (v := .val (.ref e)) (Q := fun a σ₂ => a = .val (.ref e) ∧ σ₂ = σ) (X := fun _ => False) rfl ⟨rfl, rfl⟩) F₈ (fun v4 a s₆ σ₆ G7 r4 ⟨e1, e2⟩ => ?_) (fun _ _ ⟨_, _, x⟩ => x.elim)
  replace e2 := e2.symm
  subst e1 e2
  obtain rfl : v4 = .ref e := r4
  have F₉ := F₈.stepL G7
  have kk : ∀ b o, h₅.get? b = some o → σ b = none → s₆.heap.get? b = some o := fun b o e n => G7.evo b o (G6.evo b o e n (fun q => nomatch q)) n (fun q => nomatch q)
  have he₉ : s₆.heap.get? e = some (excObj T (some dx)) := kk _ _ he₇ hσ
  obtain ⟨hne, hns⟩ : dx ≠ e ∧ h₅.Ns1 dx (fun y => if y = Str.ofString "message" then some v else none) := by
    rcases od₅ with ⟨z, _⟩ | ⟨d', z, hne, hns⟩
    · cases z
    · cases z; exact ⟨hne, hns⟩
  have hns₉ : s₆.heap.Ns1 dx (fun y => if y = Str.ofString "message" then some v else none) := hns.at fun o eo => kk _ o eo dσ
  have e6 : s₆.gens = g₄ ∧ s₆.drawn = d₄ ∧ s₆.os = os₄ := ⟨G7.rest.1.trans G6.rest.1, G7.rest.2.1.trans G6.rest.2.1, G7.rest.2.2.trans G6.rest.2.2⟩
  have kall : ∀ b o, b ≠ e → σ b = none → s.heap.get? b = some o → s₆.heap.get? b = some o ∧ b ≠ dx := fun b o nb n eo => by
    have := k4 b o nb n eo
    exact ⟨kk b o (k₅ b o nb (fun q => nomatch q) this) n, fun z => by rw [z, hdx] at this; exact absurd (Heap.lt_size this) (Nat.lt_irrefl _)⟩
  obtain ⟨h₆, g₆, d₆, tk₆, os₆⟩ := s₆
  refine fault_set F₉.K he₉ (.inr ⟨dx, rfl, hne, hns₉⟩) (Within.cons _ v Within.nil) (by exact (by decide : 1 ≤ 100)) (by kernel_rfl) fun h₇ dx2 tk₇ k₇ he₁₀ _ _ _ => ?_
  have nT : ∀ o, h₆.get? dx = some o → ¬ Tup o := fun o eo t => by
    obtain ⟨o', _, _, e1, e2, _⟩ := hns₉
    rw [eo] at e1; cases e1
    obtain ⟨_, _, _, d⟩ := t
    rw [e2] at d; cases d
  have F₁₀ := chg (tk := tk₇) F₉ he₉ (fun b o nb nd => k₇ b o nb nd) (fun b q => by cases q; exact ⟨dσ, dH, nT, dfr⟩)
  show wpAny _ _ (execs [] _) _ _ _
  refine wpAny_execs_nil ?_
  obtain ⟨a1, a2, a3⟩ := r4
  obtain ⟨b1, b2, b3⟩ := e6
  dsimp only at a1 a2 a3 b1 b2 b3
  subst a1 a2 a3 b1 b2 b3
  exact q h₇ tk₇ T dx2 F₁₀.ok (fun b o nb n eo => k₇ b o nb (fun z => (kall b o nb n eo).2 (Option.some.inj z).symm) (kall b o nb n eo).1) he₁₀
end
section
variable {M : Model} {A : Around} {E : Value → Shared → Prop} {env : Env}
theorem raise_made {s : Shared} {x : Sem Value} {Q : Flow → Shared → Prop} (hh : A.handled = none)
    (h : wpAny M A x (fun v s₁ => ∃ e t d, v = .ref e ∧ s₁.heap.get? 57 = some faultCls ∧ s₁.heap.get? e = some (excObj t d) ∧ E (.ref e) s₁) E s) : wpAny M A (raiseStmt env (some x) none) Q E s := by
  have hcB := fault_has "BaseException" (by decide)
  unfold raiseStmt
  refine wpAny_bind (wpAny_mono h (fun v s₁ h₁ => ?_) fun _ _ x => x)
  obtain ⟨e, t, dd, rfl, hC, he, hE⟩ := h₁
  have he' : s₁.heap.get? e = some { cls := .ref 57, dict := dd, data := .fields #[.ref t, .none, .none, .none, .bool false, .none] } := he
  obtain ⟨hp, g, d, tk, os⟩ := s₁
  repeat (first | with_reducible refine wpAny_loadPart_at he' ?_ | with_reducible refine wpAny_loadPart_at hC ?_ | (with_reducible refine wpAny_isSubtype_exc hC ?_; rw [hcB]) | wp_step)
  exact wpAny_raiseNew_none hh hE
end
section
variable {c : Fc} {ρ : List (Str × AV)} {P : List (Value × AV)} {σ : Store} {Q : Fl → List (Str × AV) → Store → Prop} {X : Store → Prop}
/-- the fault is made -/
theorem make_fault {A : Around} {outer : List Env} {s : Shared} (F : InFr c ρ [] A outer s σ) (hn : 2 ≤ c.n) {m : Str} {i : Int} {vals : List Value} (rs : VRels s.heap vals [.str m, .int i]) {Q' : Value → Shared → Prop} {E' : Value → Shared → Prop}
    (q : ∀ e T dx h' tk, HeapOK c.w c.H h' σ → c.H.get? e = none → s.heap.get? e = none → (∀ b o, σ b = none → s.heap.get? b = some o → h'.get? b = some o) → h'.get? e = some (excObj T (some dx)) → Q' (.ref e) { s with heap := h', toks := tk }) :
    wpAny (model pw c.w) A (call (.ref 57) vals) Q' E' s := by
  obtain ⟨v1, v2, rfl, ⟨t1, rfl⟩, t2, rfl⟩ := vrels2 rs
  obtain ⟨h, g, d, t, os⟩ := s
  refine fault_call F.K (by rw [sizeLine_eq]; exact (by decide : 2 ≤ 16777216)) ?_
  have e1 : (h.push { cls := .type "tuple", data := .seq [Value.str m t1, Value.int i t2].toArray }).objs.size = h.objs.size + 1 := Heap.size_push ..
  have kp : ∀ b o, h.get? b = some o → ((h.push { cls := .type "tuple", data := .seq [Value.str m t1, Value.int i t2].toArray }).push (excObj h.objs.size none)).get? b = some o := fun b o e => Heap.get?_push_of_some _ (Heap.get?_push_of_some _ e)
  have he : ((h.push { cls := .type "tuple", data := .seq [Value.str m t1, Value.int i t2].toArray }).push (excObj h.objs.size none)).get? (h.objs.size + 1) = some (excObj h.objs.size none) := by
    have := Heap.get?_push_size (h := h.push { cls := .type "tuple", data := .seq [Value.str m t1, Value.int i t2].toArray }) (o := excObj h.objs.size none) rfl
    rw [e1] at this; exact this
  have hno : h.get? (h.objs.size + 1) = none := by
    cases e : h.get? (h.objs.size + 1) with
    | none => rfl
    | some o => have : h.objs.size + 1 < h.objs.size := Heap.lt_size e; (first | lia | omega)
  have hσ : σ (h.objs.size + 1) = none := by
    cases e : σ (h.objs.size + 1) with
    | none => rfl
    | some cl =>
      obtain ⟨o, eo⟩ := (F.ok.cells _ _ e).1.there
      rw [hno] at eo; cases eo
  have hH : c.H.get? (h.objs.size + 1) = none := by
    cases e : c.H.get? (h.objs.size + 1) with
    | none => rfl
    | some o => rw [F.ok.stays _ _ e] at hno; cases hno
  have G : Good c.w c.H none ⟨h, g, d, t, os⟩ σ ⟨(h.push { cls := .type "tuple", data := .seq [Value.str m t1, Value.int i t2].toArray }).push (excObj h.objs.size none), g, d, t, os⟩ σ := .keep F.ok ⟨rfl, rfl, rfl⟩ kp
  have F2 := F.stepL G
  have hw : (Code.builtin "type.__call__" ⟨.ref 57 :: [Value.str m t1, Value.int i t2], []⟩).weight = 1 := by kernel_rfl
  have hu : (Code.builtin "type.__call__" ⟨.ref 57 :: [Value.str m t1, Value.int i t2], []⟩).cUnits = 1 := by kernel_rfl
  have hv : (Code.builtin "type.__call__" ⟨.ref 57 :: [Value.str m t1, Value.int i t2], []⟩).envs = [] := by kernel_rfl
  have F3 : InFr { c with n := c.n - 1 } ρ [] (A.under (.builtin "type.__call__" ⟨.ref 57 :: [Value.str m t1, Value.int i t2], []⟩)) outer ⟨(h.push { cls := .type "tuple", data := .seq [Value.str m t1, Value.int i t2].toArray }).push (excObj h.objs.size none), g, d, t, os⟩ σ :=
    ⟨⟨F2.base.says, F2.base.g, F2.base.b, F2.base.bi, F2.base.lim, F2.base.free⟩, F2.handled, by
      have := F2.depth
      show A.depth + (Code.builtin "type.__call__" ⟨.ref 57 :: [Value.str m t1, Value.int i t2], []⟩).weight + 2 * (c.n - 1) + 2 ≤ 1000
      rw [hw]; (first | lia | omega), by
      have := F2.units
      show A.units + (Code.builtin "type.__call__" ⟨.ref 57 :: [Value.str m t1, Value.int i t2], []⟩).cUnits + 20 * (c.n - 1) + 200 ≤ 9900
      rw [hu]; (first | lia | omega), by
      have := F2.frames
      show pushEnvs (Code.builtin "type.__call__" ⟨.ref 57 :: [Value.str m t1, Value.int i t2], []⟩).envs A.frames = _
      rw [hv]; exact this, F2.kind, F2.frame, F2.globals, F2.builtins, F2.stack, F2.apart, F2.ns, F2.known, F2.locs, F2.glos, F2.ok, F2.pend⟩
  refine wpAny_call (call_raw c_e_init b_e_init (by show 1 ≤ c.n - 1; (first | lia | omega)) (as := [.val (.ref (h.objs.size + 1)), .str m, .int i]) rfl F3 ⟨_, _, rfl, rfl, _, _, rfl, ⟨_, rfl⟩, _, _, rfl, ⟨_, rfl⟩, rfl⟩ fun s0 k0 r0 F4 => ?_)
  refine wpAny_mono (init_raw (c := { c with n := c.n - 1 }) (σ := σ) (E' := fun _ _ => False) (Q' := fun f s' => f = .next ∧ ∃ h' tk T dx, HeapOK c.w c.H h' σ ∧ (∀ b o, b ≠ h.objs.size + 1 → σ b = none → s0.heap.get? b = some o → h'.get? b = some o) ∧ h'.get? (h.objs.size + 1) = some (excObj T (some dx)) ∧ s' = { s0 with heap := h', toks := tk })
    F4 (k0 _ _ he) hH hσ (fun x hx b hb z => ?_) (fun h' tk T dx ok k e => ⟨rfl, h', tk, T, dx, ok, k, e, rfl⟩)) (fun f s' ⟨ef, h', tk, T, dx, ok, k, e, es⟩ => ?_) fun _ _ x => x
  · rcases List.mem_cons.mp hx with rfl | hx
    · have e2 : ((h.push { cls := .type "tuple", data := .seq [Value.str m t1, Value.int i t2].toArray }).push (excObj h.objs.size none)).objs.size = h.objs.size + 2 := by rw [Heap.size_push, e1]
      have hb' : ((h.push { cls := .type "tuple", data := .seq [Value.str m t1, Value.int i t2].toArray }).push (excObj h.objs.size none)).objs.size = b := Option.some.inj hb
      rw [e2, z] at hb'
      have hb2 : h.objs.size + 2 = h.objs.size + 1 := hb'
      (first | lia | omega)
    · obtain ⟨⟨o, eo⟩, _⟩ := F.frameThere hx hb
      rw [z, hno] at eo; cases eo
  · subst ef es
    obtain ⟨r1, r2, r3⟩ := r0
    dsimp only at r1 r2 r3
    refine ⟨rfl, ?_⟩
    have := q (h.objs.size + 1) T dx h' tk ok hH hno (fun b o n eo => k b o (fun z => by rw [z, hno] at eo; cases eo) n (k0 _ _ (kp _ _ eo))) e
    rw [r1, r2, r3]
    exact this
theorem S_raise {p cpos pos : Pos} {a b : Expr} (hk : c.glo.contains "GrammarFault" = true) (hn : 2 ≤ c.n) (ha : notStar a = true) (hb : notStar b = true)
    (h : Ev c ρ [] a σ (fun av σ₁ => ∃ s, av = .str s ∧ Ev c ρ [] b σ₁ (fun bv σ₂ => ∃ i, bv = .int i ∧ X σ₂) X) X) : J1 c ρ (.Raise (some (.Call (.Name "GrammarFault" p) [a, b] [] cpos)) none pos) σ Q X := fun A outer s F => by
  have args : Evs c ρ [] cpos [a, b] σ (fun as σ₂ => (∃ m i, as = [.str m, .int i]) ∧ X σ₂) X := by
    refine Evs_cons (h.mono (fun av σ₁ ⟨m, e, hb'⟩ => Evs_cons (hb'.mono (fun bv σ₂ ⟨i, e2, hx⟩ => Evs_nil ⟨⟨m, i, by rw [e, e2]⟩, hx⟩) fun _ x => x) (starEach_cons' hb)) fun _ x => x) (starEach_cons' ha)
  rw [arm_exec_Raise]
  show wpAny _ _ (standAt pos >>= fun _ => raiseStmt c.env (some (do let v ← eval (.Call (.Name "GrammarFault" p) [a, b] [] cpos) c.env; standAt pos; pure v)) none) _ _ s
  refine wpAny_bind (wpAny_standAt (raise_made F.handled ?_))
  refine wpAny_bind (wpAny_Call_ofName (J.go (E_gf (c := c) (ρ := ρ) (P := []) (x := "GrammarFault") (f := 57) (Q := fun a σ₁ => a = .val (.ref 57) ∧ σ₁ = σ) (X := X) hk g_GrammarFault ⟨rfl, rfl⟩) F (fun v av s₁ σ₁ G r ⟨e1, e2⟩ => ?_) fun _ _ x => SExc.of x))
  replace e2 := e2.symm
  subst e1 e2
  obtain rfl : v = .ref 57 := r
  have F₁ := F.stepL G
  refine callWith_K (K := KO c.w.params) (h₀ := s₁.heap) F₁.K (by kernel_rfl) (J.go args F₁ (fun vs as s₂ σ₂ G2 rs ⟨⟨m, i, e⟩, hx⟩ => ?_) fun _ _ x => SExc.of (ExcPost.up G _ _ x)) (starEach_cons' ha) (star_any (by rw [List.all_cons, hb]; rfl))
  subst e
  have F₂ := F₁.stepL G2
  have GG := G.trans G2 noneK
  refine ⟨F₂.K, make_fault F₂ hn rs.1 fun e T dx h' tk ok hH hno k he => ?_⟩
  refine wpAny_bind (wpAny_standAt (wpAny_pure ⟨e, T, some dx, rfl, ?_, he, ?_⟩))
  · exact F₂.base.says.objs.keeps ok.stays _ _ (fault_is _)
  · have kk : ∀ b o, s.heap.get? b = some o → σ b = none → h'.get? b = some o := fun b o eo n => k b o (GG.old b o eo n) (GG.evo b o eo n (fun q => nomatch q))
    refine ⟨σ₂, ⟨GG.rest, ⟨e, rfl, .new ok.stays hH ?_ he rfl rfl rfl rfl⟩, fun a as ea => ok.cells a _ ea, fun a o eo n _ _ => ⟨o.slots, kk a o eo n⟩, GG.old⟩, hx⟩
    exact funFrames_keep F.stack fun x hx L hL o ho => ⟨o, kk L o ho (F.apart x hx L hL), id⟩
end

/-! # Text WPI -/
/-! # Precedence climbing -/
structure Opn where
  T : List Tk
  r : Option AV
structure Item where
  op : Str
  pos : Int
  o : Opn
noncomputable def levS (s : Str) : Int := (LEV.lookup s).getD 0
noncomputable def spotD (a : AV) : Int := a.spot.getD 0
noncomputable def binT (l : AV) (op : Str) (r : AV) : AV := .tup [.str "binary", .int (spotD l), .str op, l, r]
noncomputable def beh : Nat → Int → AV → Bool → List Item → Option (AV × List Item)
  | 0, _, _, _, _ => none
  | _ + 1, _, left, _, [] => some (left, [])
  | f + 1, least, left, cmp, it :: rest =>
    if levS it.op < least ∨ levS it.op = 0 then some (left, it :: rest)
    else if levS it.op = 3 ∧ cmp = true then none
    else match it.o.r with
      | none => none
      | some t => match beh f (levS it.op + 1) t false rest with
        | none => none
        | some (right, rest') => beh f least (binT left it.op right) (levS it.op == 3) rest'
theorem beh_suffix : ∀ (f : Nat) (least : Int) (left : AV) (cmp : Bool) (rest : List Item) {t : AV} {rest' : List Item}, beh f least left cmp rest = some (t, rest') → ∃ pre, rest = pre ++ rest'
  | 0, _, _, _, _, _, _, e => by cases e
  | _ + 1, _, _, _, [], _, _, e => by cases e; exact ⟨[], rfl⟩
  | f + 1, least, left, cmp, it :: rest, t, rest', e => by
    unfold beh at e
    split at e
    · cases e; exact ⟨[], rfl⟩
    · split at e
      · cases e
      · split at e
        · cases e
        · split at e
          · cases e
          · rename_i right rest2 e2
            obtain ⟨p1, h1⟩ := beh_suffix f _ _ _ _ e2
            obtain ⟨p2, h2⟩ := beh_suffix f _ _ _ _ e
            exact ⟨it :: (p1 ++ p2), by rw [h1, h2]; simp⟩
noncomputable def toks : List Item → List Tk
  | [] => []
  | it :: rest => sg it.op it.pos :: (it.o.T ++ toks rest)
theorem toks_append : ∀ (a b : List Item), toks (a ++ b) = toks a ++ toks b
  | [], _ => rfl
  | it :: a, b => by
    show sg it.op it.pos :: (it.o.T ++ toks (a ++ b)) = sg it.op it.pos :: (it.o.T ++ toks a) ++ toks b
    rw [toks_append a b]; simp
noncomputable def opsL : List (Str × Str) := [("sign", "="), ("sign", "+="), ("sign", "||"), ("sign", "&&"), ("sign", "=="), ("sign", "<"), ("sign", ">="), ("sign", "|"), ("sign", "^"), ("sign", "&"), ("sign", "<<"), ("sign", "+"), ("sign", "-"), ("sign", "*"), ("sign", "%")]
structure OkItem (N : Nat) (it : Item) : Prop where
  op : (("sign" : Str), it.op) ∈ opsL
  par : Par 392 [.bool false] it.o.T it.o.r N stops2
  spot : ∀ t, it.o.r = some t → t.spot.isSome = true
theorem ops_stop {p : Str × Str} (h : p ∈ opsL) : p ∈ stops2 := List.mem_append_left stops3 h
/-- what follows a run of items -/
theorem follow_items {W : Ws} {i : Nat} {rest : List Item} {N : Nat} (a : At W i (toks rest)) (ok : ∀ it ∈ rest, OkItem N it) (fo : (W.tok (i + (toks rest).length)).among stops3 = true) : (W.tok i).among stops2 = true := by
  cases rest with
  | nil => exact among_up fo fun p hp => List.mem_append_right opsL hp
  | cons it rest =>
    have : W.tok i = sg it.op it.pos := a.tok0
    rw [this]
    exact List.any_eq_true.mpr ⟨_, ops_stop (ok it (.head _)).op, by simp⟩
theorem lev_stop {t : Tk} (h : t.among stops3 = true) : t.lev = 0 := by
  have e := among_of h
  unfold Tk.lev
  simp only [stops3, List.mem_cons, List.not_mem_nil, or_false, Prod.mk.injEq] at e
  rcases e with ⟨e1, e2⟩ | ⟨e1, e2⟩ | ⟨e1, e2⟩ <;> rw [e1, e2] <;> decide
theorem lev_sg {s : Str} {p : Int} : (sg s p).lev = levS s := rfl
noncomputable def SubL (ρ : List (Str × AV)) : List (Str × AV) → Prop
  | [] => True
  | (x, v) :: l => ρ.lookup x = some v ∧ SubL ρ l
theorem SubL.all {ρ : List (Str × AV)} : ∀ {l : List (Str × AV)}, SubL ρ l → ∀ x v, l.lookup x = some v → ρ.lookup x = some v
  | [], _, _, _, e => by cases e
  | (y, u) :: l, ⟨h, hs⟩, x, v, e => by
    rw [List.lookup_cons] at e
    cases q : x == y with
    | true => rw [q] at e; cases e; rw [eq_of_beq q]; exact h
    | false => rw [q] at e; exact hs.all x v e
section
variable {c : Fc} {ρ : List (Str × AV)} {P : List (Value × AV)} {σ : Store} {X : Store → Prop}
theorem InFr.sub {ρ₀ : List (Str × AV)} {A : Around} {outer : List Env} {s : Shared} (F : InFr c ρ P A outer s σ) (h : SubL ρ ρ₀) : InFr c ρ₀ P A outer s σ :=
  { F with
    ns := by obtain ⟨m, hn, hr⟩ := F.ns.is; exact ⟨m, hn, fun x av e => hr x av (h.all x av e)⟩
    known := fun x av e => F.known x av (h.all x av e) }
theorem JT.sub {ρ₀ : List (Str × AV)} {t : Sem Flow} {Q : Fl → List (Str × AV) → Store → Prop} (h : JT c ρ₀ t σ Q X) (k : SubL ρ ρ₀) : JT c ρ t σ Q X := fun A outer s F => h A outer s (F.sub k)
theorem S_whileT (I : Nat → List (Str × AV) → Store → Prop) {body : List Stmt} {k : Nat} {cp pos : Pos} {Q : Fl → List (Str × AV) → Store → Prop}
    (turn : ∀ n ρ' σ', I n ρ' σ' → ∃ ρ₀, SubL ρ' ρ₀ ∧ JS c ρ₀ body σ' (loopQ (fun ρ₂ σ₂ => ∃ m, m < n ∧ I m ρ₂ σ₂) Q) X)
    (n : Nat) (h : I n ρ σ) : J1 c ρ (.While (.Constant (.bool true) k cp) body [] pos) σ Q X :=
  S_while I (fun n ρ' σ' hI => T_true (by
    rw [if_pos rfl]
    obtain ⟨ρ₀, hs, hb⟩ := turn n ρ' σ' hI
    exact JT.sub hb hs)) n h
theorem at_suffix {W : Ws} {i j : Nat} {rest rest' : List Item} (a : At W i (toks rest)) (h : ∃ pre, rest = pre ++ rest') (e : j + (toks rest').length = i + (toks rest).length) : At W j (toks rest') := by
  obtain ⟨pre, rfl⟩ := h
  rw [toks_append] at a e
  rw [List.length_append] at e
  have : j = i + (toks pre).length := by (first | lia | omega)
  rw [this]; exact a.drop
theorem S_ifB {B : Bool} {test : Expr} {body orelse : List Stmt} {pos : Pos} {Q : Fl → List (Str × AV) → Store → Prop} (ht : Tst c ρ [] test σ (fun b σ₁ => b = B ∧ σ₁ = σ) X) (h : if B then JS c ρ body σ Q X else JS c ρ orelse σ Q X) : J1 c ρ (.If test body orelse pos) σ Q X :=
  S_if (ht.mono (fun b σ₁ ⟨e, e2⟩ => by subst e e2; exact h) fun _ x => x)
theorem g_COMPARED : gval "COMPARED" = some (.int 3 807) := by kernel_rfl
theorem lev_none {l least : Int} {b : Bool} (h : (decide (l < least) || l == 0) = b) : b = true ↔ (l < least ∨ l = 0) := by
  subst h; simp
noncomputable def BehC (N f : Nat) : Prop := ∀ (least : Int) (left : AV) (rest : List Item), rest.length < f → (∀ it ∈ rest, OkItem N it) → left.spot.isSome = true → ∀ (c : Fc) (ρ : List (Str × AV)) (σ : Store) (Q : AV → Store → Prop) (X : Store → Prop) (W : Ws) (i : Nat),
  WAt σ W i → At W i (toks rest) → (W.tok (i + (toks rest).length)).among stops3 = true → N + 2 * f + 6 ≤ c.n →
  (∀ t rest', beh f least left false rest = some (t, rest') → ∀ σ' j, j + (toks rest').length = i + (toks rest).length → WAt σ' W j → Ext W.x σ σ' → Q t σ') → (beh f least left false rest = none → ∀ σ', Ext W.x σ σ' → X σ') →
  CallJ c ρ (.ref 385) [.loc W.x, left, .int least, .bool false] σ Q X
/-- `read_binary`, by `read_behind` -/
theorem binary_ok {N f : Nat} (hB : BehC N f) {least : Int} {o : Opn} {rest : List Item} (hl : rest.length < f) (ok : ∀ it ∈ rest, OkItem N it) (op : Par 392 [.bool false] o.T o.r N stops2) (os : ∀ t, o.r = some t → t.spot.isSome = true)
    {Q : AV → Store → Prop} {W : Ws} {i : Nat} (h : WAt σ W i) (a : At W i (o.T ++ toks rest)) (fo : (W.tok (i + (o.T ++ toks rest).length)).among stops3 = true) (hn : N + 2 * f + 7 ≤ c.n)
    (q : ∀ t t₀ rest', o.r = some t₀ → beh f least t₀ false rest = some (t, rest') → ∀ σ' j, j + (toks rest').length = i + (o.T ++ toks rest).length → WAt σ' W j → Ext W.x σ σ' → Q t σ')
    (qx : (o.r = none ∨ ∃ t₀, o.r = some t₀ ∧ beh f least t₀ false rest = none) → ∀ σ', Ext W.x σ σ' → X σ') : CallJ c ρ (.ref 378) [.loc W.x, .int least, .bool false] σ Q X := by
  have fo' : (W.tok (i + o.T.length + (toks rest).length)).among stops3 = true := by rw [Nat.add_assoc, ← List.length_append]; exact fo
  refine call_def0 c_read_binary b_read_binary (by (first | lia | omega)) (ρ₀ := [("words", .loc W.x), ("least", .int least), ("no_struct", .bool false)]) ⟨rfl, rfl⟩ fun L => ?_
  conv => arg 3; whnf
  repeat k_memK
  refine E_fn rfl g_read_behind rfl ?_
  repeat k_memK
  refine E_fn rfl g_read_cast rfl ?_
  repeat k_memK
  refine op _ _ _ _ _ W i h a.take (follow_items a.drop ok fo') (calleeN (by (first | lia | omega))) (fun t et σ' h' ex => ?_) (fun et σ' ex => qx (.inl et) σ' ex)
  repeat k_memK
  refine hB least t rest hl ok (os t et) _ _ _ _ _ W _ h' a.drop fo' (calleeN (by (first | lia | omega))) (fun t2 rest' e σ'' j ej h'' ex2 => retq (q t2 t rest' et e σ'' j ?_ h'' (ex.trans ex2))) (fun e σ'' ex2 => qx (.inr ⟨t, et, e⟩) σ'' (ex.trans ex2))
  rw [ej, List.length_append, Nat.add_assoc]
theorem beh_spot : ∀ (f : Nat) (least : Int) (left : AV) (cmp : Bool) (rest : List Item) {t : AV} {rest' : List Item}, left.spot.isSome = true → beh f least left cmp rest = some (t, rest') → t.spot.isSome = true
  | 0, _, _, _, _, _, _, _, e => by cases e
  | _ + 1, _, _, _, [], _, _, h, e => by cases e; exact h
  | f + 1, least, left, cmp, it :: rest, t, rest', h, e => by
    unfold beh at e
    split at e
    · cases e; exact h
    · split at e
      · cases e
      · split at e
        · cases e
        · split at e
          · cases e
          · exact beh_spot f _ _ _ _ rfl e
theorem behind_all (N : Nat) : ∀ f, BehC N f
  | 0 => fun _ _ _ hl => absurd hl (Nat.not_lt_zero _)
  | f + 1 => fun least left rest hl ok hs c ρ σ Q X W i h a fo hn q qx => by
    have IH : ∀ g, g ≤ f → BehC N g := fun g hg => behind_all N g
    refine call_def0 c_read_behind b_read_behind (by (first | lia | omega)) (ρ₀ := [("words", .loc W.x), ("left", left), ("least", .int least), ("no_struct", .bool false)]) ⟨rfl, rfl⟩ fun L => ?_
    conv => arg 3; whnf
    repeat k_memK
    try refine S_cons ?_
    refine S_whileT (fun n ρ' σ' => ∃ left' cmp rest' g j, SubL ρ' (Lv [("words", .loc W.x), ("left", left'), ("least", .int least), ("no_struct", .bool false), ("is_compared", .bool cmp)]) ∧ WAt σ' W j ∧ At W j (toks rest') ∧ j + (toks rest').length = i + (toks rest).length ∧
      rest'.length < g ∧ g ≤ f + 1 ∧ (∀ it ∈ rest', OkItem N it) ∧ left'.spot.isSome = true ∧ beh g least left' cmp rest' = beh (f + 1) least left false rest ∧ Ext W.x σ σ' ∧ n = rest'.length) (fun n ρ' σ' hI => ?_) rest.length
      ⟨left, false, rest, f + 1, i, ⟨rfl, rfl, rfl, rfl, rfl, trivial⟩, h, a, rfl, hl, Nat.le_refl _, ok, hs, rfl, Ext.refl, rfl⟩
    obtain ⟨left', cmp, rest', g, j, hsub, h', a', ej, hg, hgf, ok', hs', eb, ex, rfl⟩ := hI
    refine ⟨_, hsub, ?_⟩
    have hj : j ≤ W.ts.length := by have := a'.le; (first | lia | omega)
    repeat k_memK
    refine ⟨W, j, rfl, h', peek0_ok h' hj (calleeN (by (first | lia | omega))) ?_⟩
    repeat k_memK
    refine E_fn rfl g_level_of rfl ?_
    repeat k_memK
    refine level_of_ok (calleeN (by (first | lia | omega))) ?_
    try refine S_cons ?_
    refine S_ifB (B := decide ((W.tok j).lev < least) || (W.tok j).lev == 0) ?_ ?_
    · repeat k_memK
      refine cmp_I (b := decide ((W.tok j).lev < least)) rfl ?_
      cases decide ((W.tok j).lev < least) with
      | true => exact ⟨rfl, rfl⟩
      | false =>
        rw [if_neg (by decide)]
        repeat k_memK
        refine cmp_I (b := (W.tok j).lev == 0) rfl ?_
        cases (W.tok j).lev == 0 with
        | true => exact ⟨rfl, rfl⟩
        | false => exact All_or_nil ⟨rfl, rfl⟩
    cases hB : (decide ((W.tok j).lev < least) || (W.tok j).lev == 0) with
    | true =>
      rw [if_pos rfl]
      repeat k_memK
      have hst := (lev_none hB).mp rfl
      refine retq (q left' rest' ?_ σ' j ej h' ex)
      rw [← eb]
      cases g with
      | zero => exact absurd hg (Nat.not_lt_zero _)
      | succ g =>
        cases rest' with
        | nil => rfl
        | cons it r =>
          rw [a'.tok0, lev_sg] at hst
          unfold beh
          rw [if_pos hst]
    | false =>
      rw [if_neg (by decide)]
      refine S_nil ?_
      have hns : ¬ ((W.tok j).lev < least ∨ (W.tok j).lev = 0) := fun e => by have := (lev_none hB).mpr e; cases this
      cases rest' with
      | nil =>
        exfalso
        refine hns (.inr (lev_stop ?_))
        have : j = i + (toks rest).length := ej
        rw [this]; exact fo
      | cons it r =>
        have t0 : W.tok j = sg it.op it.pos := a'.tok0
        rw [t0] at hns hB ⊢
        cases g with
        | zero => exact absurd hg (Nat.not_lt_zero _)
        | succ g =>
          have okit := ok' it (.head _)
          have okr : ∀ x ∈ r, OkItem N x := fun x hx => ok' x (.tail _ hx)
          obtain ⟨R, hR⟩ : ∃ R, R = beh (f + 1) least left false rest := ⟨_, rfl⟩
          rw [← hR] at eb
          unfold beh at eb
          rw [lev_sg] at hns
          rw [if_neg hns] at eb
          try refine S_cons ?_
          refine S_ifB (B := levS it.op == 3 && cmp) ?_ ?_
          · repeat k_memK
            refine E_gl (v := .int 3) rfl g_COMPARED (fun _ _ _ => ⟨_, rfl⟩) ?_
            refine cmp_I (b := levS it.op == 3) rfl ?_
            cases levS it.op == 3 with
            | false => exact ⟨rfl, rfl⟩
            | true =>
              rw [if_pos rfl]
              repeat k_memK
              refine ⟨cmp, rfl, ?_⟩
              cases cmp with
              | false => exact ⟨rfl, rfl⟩
              | true => exact All_and_nil ⟨rfl, rfl⟩
          cases hC : (levS it.op == 3 && cmp) with
          | true =>
            rw [if_pos rfl]
            have h3 : levS it.op = 3 ∧ cmp = true := by simpa using hC
            rw [if_pos h3] at eb
            refine S_cons (S_raise rfl (calleeN (by (first | lia | omega))) rfl rfl ?_)
            repeat k_memK
            refine ⟨_, rfl, ?_⟩
            repeat k_memK
            exact ⟨_, rfl, qx (hR.symm.trans eb.symm) σ' ex⟩
          | false =>
            rw [if_neg (by decide)]
            have h3 : ¬ (levS it.op = 3 ∧ cmp = true) := by simpa using hC
            rw [if_neg h3] at eb
            refine S_nil ?_
            repeat k_memK
            refine ⟨W, j, rfl, h', take_ok h' hj (calleeN (by (first | lia | omega))) (by rw [t0]; exact (by decide : ("sign" : Str) ≠ "end")) ?_⟩
            repeat k_memK
            refine E_fn rfl g_read_binary rfl ?_
            repeat k_memK
            refine bin_addI ?_
            repeat k_memK
            have el : j + 1 + (it.o.T ++ toks r).length = j + (toks (it :: r)).length := by
              show _ = j + (sg it.op it.pos :: (it.o.T ++ toks r)).length
              rw [List.length_cons]; (first | lia | omega)
            refine binary_ok (IH g (by (first | lia | omega))) (least := levS it.op + 1) (by simpa using hg) okr okit.par okit.spot (h'.to (j + 1)) a'.tail (by rw [el, ej]; exact fo) (calleeN (by (first | lia | omega))) (fun t t₀ rest2 e1 e2 σ'' j2 ej2 h2 ex2 => ?_) (fun e σ'' ex2 => qx ?_ σ'' (ex.trans (Ext.set.trans ex2)))
            · rw [e1] at eb
              dsimp only at eb
              rw [e2] at eb
              dsimp only at eb
              obtain ⟨s, es⟩ := Option.isSome_iff_exists.mp hs'
              repeat k_memK
              refine spot_sub (fun _ _ => ⟨_, rfl⟩) es ?_
              repeat k_memK
              refine E_gl (v := .int 3) rfl g_COMPARED (fun _ _ _ => ⟨_, rfl⟩) ?_
              refine cmp_I (b := levS it.op == 3) rfl ?_
              refine S_nil ?_
              have eT : binT left' it.op t = .tup [.str "binary", .int s, .str it.op, left', t] := by unfold binT spotD; rw [es]; rfl
              have hsuf := beh_suffix _ _ _ _ _ e2
              refine ⟨rest2.length, ?_, binT left' it.op t, levS it.op == 3, rest2, g, j2, ⟨rfl, by rw [eT]; rfl, rfl, rfl, rfl, trivial⟩, h2, ?_, by rw [ej2, el, ej], ?_, by (first | lia | omega), ?_, rfl, eb.trans hR, ex.trans (Ext.set.trans ex2), rfl⟩
              · obtain ⟨pre, hpre⟩ := hsuf
                have := congrArg List.length hpre
                rw [List.length_append] at this
                show rest2.length < (it :: r).length
                rw [List.length_cons]; (first | lia | omega)
              · refine at_suffix (i := j + 1 + it.o.T.length) (a'.tail.drop) hsuf ?_
                rw [ej2, List.length_append]; (first | lia | omega)
              · obtain ⟨pre, hpre⟩ := hsuf
                have := congrArg List.length hpre
                rw [List.length_append] at this
                have h9 : r.length < g := by simpa using hg
                (first | lia | omega)
              · obtain ⟨pre, hpre⟩ := hsuf
                exact fun x hx => okr x (by rw [hpre]; exact List.mem_append_right _ hx)
            · rcases e with e | ⟨t₀, e1, e2⟩
              · rw [e] at eb; exact hR.symm.trans eb.symm
              · rw [e1] at eb
                dsimp only at eb
                rw [e2] at eb
                exact hR.symm.trans eb.symm
/-! # Whole expressions -/
noncomputable def assT (op : Str) (l r : AV) : AV := if op == "=" then .tup [.str "assign", .int (spotD l), l, r] else .tup [.str "update", .int (spotD l), .str "+", l, r]
noncomputable def expr : Nat → Opn → List Item → Option AV
  | 0, _, _ => none
  | f + 1, o, rest => match o.r with
    | none => none
    | some t => match beh (rest.length + 1) 1 t false rest with
      | none => none
      | some (left, []) => some left
      | some (left, it :: rest') => match expr f it.o rest' with
        | none => none
        | some r => some (assT it.op left r)
end

/-! # Text WS -/
/-! # Slices -/
noncomputable def sliceS (x : Str) (l u : Option Int) : Str := if ((Builtin.Str.strSliceIndices l u 1 x.length).length == x.length) = true then x else ⟨((Builtin.Str.strSliceIndices l u 1 x.length).filterMap (x.cps[·]?)).toArray⟩
noncomputable abbrev PartJ (c : Fc) (ρ : List (Str × AV)) (P : List (Value × AV)) (e : Option Expr) (σ : Store) (Q : Option Int → Store → Prop) (X : Store → Prop) : Prop :=
  J c ρ P (fun _ v (l : Option Int) => ∃ pr : Option (Int × Tok), v = partValue pr ∧ pr.map (·.1) = l) (evalPart e c.env) σ Q X
section
variable {c : Fc} {ρ : List (Str × AV)} {P : List (Value × AV)} {σ : Store} {Q : AV → Store → Prop} {X : Store → Prop}
theorem P_none {Q : Option Int → Store → Prop} (q : Q none σ) : PartJ c ρ P none σ Q X := fun A outer s F => by
  rw [evalPart_none]
  exact wpAny_pure ⟨none, σ, .refl F.ok, ⟨none, rfl, rfl⟩, q⟩
theorem P_some {e : Expr} {Q : Option Int → Store → Prop} (h : Ev c ρ P e σ (fun a σ₁ => ∃ i, a = .int i ∧ Q (some i) σ₁) X) : PartJ c ρ P (some e) σ Q X := fun A outer s F => by
  rw [evalPart_some]
  exact h.go F (fun v a s₁ σ₁ G r ⟨i, e, q⟩ => by
    subst e
    obtain ⟨t, rfl⟩ := r
    exact ⟨some i, σ₁, G, ⟨some (i, t), rfl, rfl⟩, q⟩) fun _ _ x => x
theorem E_sliceS {value : Expr} {lower upper : Option Expr} {p pos : Pos} (hs : Plain (.Slice lower upper none p))
    (h : Ev c ρ P value σ (fun a σ₁ => PartJ c ρ P lower σ₁ (fun l σ₂ => PartJ c ρ P upper σ₂ (fun u σ₃ => ∃ x, a = .str x ∧ x.length ≤ sizeLine ∧ Q (.str (sliceS x l u)) σ₃) X) X) X) : Ev c ρ P (.Subscript value (.Slice lower upper none p) pos) σ Q X := fun A outer s F =>
  Subscript_ (h.go F (fun v a s₁ σ₁ G r k => by
    have F₁ : InFr c ρ ((v, a) :: P) A outer s₁ σ₁ := F.step G fun p hp => by
      rcases List.mem_cons.mp hp with rfl | hp
      · exact .inr r
      · exact .inl hp
    refine wpAny_Slice ((k.weaken (P' := (v, a) :: P) fun p hp => .tail _ hp).go F₁ (fun vl l s₂ σ₂ G₂ rl k₂ => ?_) (ExcPost.up G))
    have F₂ := F₁.step G₂ (P' := (v, a) :: P) fun p hp => .inl hp
    refine (k₂.weaken (P' := (v, a) :: P) fun p hp => .tail _ hp).go F₂ (fun vu u s₃ σ₃ G₃ ru ⟨x, e, hx, q⟩ => ?_) (ExcPost.up (G.trans G₂ noneK))
    have F₃ := F₂.step G₃ (P' := (v, a) :: P) fun p hp => .inl hp
    subst e
    obtain ⟨t, rfl⟩ : ∃ t, v = .str x t := F₃.pend _ (.head _)
    obtain ⟨pl, rfl, rfl⟩ := rl
    obtain ⟨pu, rfl, rfl⟩ := ru
    rw [evalPart_none]
    refine wpAny_pure ?_
    have GG := (G.trans G₂ noneK).trans G₃ noneK
    have G4 : Good c.w c.H none s₃ σ₃ { s₃ with heap := s₃.heap.push { cls := .type "slice", data := .fields #[partValue pl, partValue pu, .none] } } σ₃ := .keep F₃.ok ⟨rfl, rfl, rfl⟩ push_keep
    obtain ⟨ops, hops⟩ := hs (.str x t) (.ref s₃.heap.objs.size)
    refine tail_any (typeIs_str _ x t) PySem.F.slot_str_getitem.lookup (wpAny_getItem_str_slice (l := pl) (u := pu) (st := none) ⟨_, Heap.get?_push_size _ rfl, rfl, rfl⟩ rfl ?_) hops
    unfold sliceMade
    have e : ((((none : Option (Int × Tok)).map (·.1)).getD 1 == 1 && (slicePicked x pl pu none).length == x.length) = true) = (((Builtin.Str.strSliceIndices (pl.map (·.1)) (pu.map (·.1)) 1 x.length).length == x.length) = true) := by
      show ((true && _) = true) = _
      rw [Bool.true_and]; rfl
    by_cases hc : ((Builtin.Str.strSliceIndices (pl.map (·.1)) (pu.map (·.1)) 1 x.length).length == x.length) = true
    · rw [if_pos (e ▸ hc)]
      have hq : sliceS x (pl.map (·.1)) (pu.map (·.1)) = x := by unfold sliceS; rw [if_pos hc]
      exact ⟨.str (sliceS x (pl.map (·.1)) (pu.map (·.1))), σ₃, GG.trans G4 noneK, ⟨t, by rw [hq]⟩, q⟩
    · rw [if_neg (e ▸ hc)]
      have hq : sliceS x (pl.map (·.1)) (pu.map (·.1)) = ⟨((slicePicked x pl pu none).filterMap (x.cps[·]?)).toArray⟩ := by
        unfold sliceS; rw [if_neg hc]; rfl
      rw [hq] at q
      refine ⟨?_, .str _, σ₃, (GG.trans G4 noneK).trans (Good.keep G4.ok ⟨rfl, rfl, rfl⟩ fun _ _ e => e) noneK, ⟨_, rfl⟩, q⟩
      refine Nat.le_trans ?_ hx
      show (((slicePicked x pl pu none).filterMap (x.cps[·]?)).toArray).size ≤ x.length
      rw [List.size_toArray]
      exact Nat.le_trans (List.length_filterMap_le _ _) (indices_len_le _ _ _)) fun _ _ x => x)
end

/-! # Text WPJ -/
theorem beh_rest : ∀ (f : Nat) (least : Int) (left : AV) (cmp : Bool) (rest : List Item) {t : AV} {it : Item} {r : List Item}, beh f least left cmp rest = some (t, it :: r) → levS it.op < least ∨ levS it.op = 0
  | 0, _, _, _, _, _, _, _, e => by cases e
  | _ + 1, _, _, _, [], _, _, _, e => by cases e
  | f + 1, least, left, cmp, it :: rest, t, it', r, e => by
    unfold beh at e
    split at e
    · rename_i h; cases e; exact h
    · split at e
      · cases e
      · split at e
        · cases e
        · split at e
          · cases e
          · exact beh_rest f _ _ _ _ e
theorem ops_zero {s : Str} (h : (("sign" : Str), s) ∈ opsL) (k : levS s < 1 ∨ levS s = 0) : s = "=" ∨ s = "+=" := by
  have all : (opsL.all fun p => (decide (levS p.2 < 1) || levS p.2 == 0) == false || (p.2 == "=" || p.2 == "+=")) = true := by decide
  have := List.all_eq_true.mp all _ h
  have e : (decide (levS s < 1) || levS s == 0) = true := by simpa using k
  simp only [e] at this
  simpa using this
local macro_rules | `(tactic| k_memK) => `(tactic| first
  | ((with_reducible refine E_sliceS ?_ ?_); (exact fun _ _ => ⟨_, rfl⟩))
  | with_reducible refine P_none ?_
  | with_reducible refine P_some ?_)
section
variable {c : Fc} {ρ : List (Str × AV)} {P : List (Value × AV)} {σ : Store} {X : Store → Prop}
noncomputable def ExpC (N f : Nat) : Prop := ∀ (o : Opn) (rest : List Item), rest.length < f → (∀ it ∈ rest, OkItem N it) → Par 392 [.bool false] o.T o.r N stops2 → (∀ t, o.r = some t → t.spot.isSome = true) → ∀ (c : Fc) (ρ : List (Str × AV)) (σ : Store) (Q : AV → Store → Prop) (X : Store → Prop) (W : Ws) (i : Nat),
  WAt σ W i → At W i (o.T ++ toks rest) → (W.tok (i + (o.T ++ toks rest).length)).among stops3 = true → N + 3 * f + 12 ≤ c.n →
  (∀ t, expr f o rest = some t → ∀ σ', WAt σ' W (i + (o.T ++ toks rest).length) → Ext W.x σ σ' → Q t σ') → (expr f o rest = none → ∀ σ', Ext W.x σ σ' → X σ') →
  ∀ L, JS (calleeFc c 364 L ["words", "no_struct", "left", "word"] ["read_binary", "read_expr", "UPDATES"]) (Lv [("words", .loc W.x), ("no_struct", .bool false)]) (bodyOf 364) σ (Ret Q) X
theorem expr_all (N : Nat) : ∀ f, ExpC N f
  | 0 => fun _ _ hl => absurd hl (Nat.not_lt_zero _)
  | f + 1 => fun o rest hl ok op os c ρ σ Q X W i h a fo hn q qx L => by
    conv => arg 3; whnf
    repeat k_memK
    refine E_fn rfl g_read_binary rfl ?_
    repeat k_memK
    refine binary_ok (behind_all N (rest.length + 1)) (least := 1) (Nat.lt_succ_self _) ok op os h a fo (calleeN (by (first | lia | omega))) (fun t t₀ rest' e1 e2 σ' j ej h' ex => ?_) (fun e σ' ex => qx ?_ σ' ex)
    · have hj : j ≤ W.ts.length := by have := a.le; (first | lia | omega)
      have hs : t.spot.isSome = true := beh_spot _ _ _ _ _ (os _ e1) e2
      obtain ⟨s, es⟩ := Option.isSome_iff_exists.mp hs
      repeat k_memK
      refine ⟨W, j, rfl, h', peek0_ok h' hj (calleeN (by (first | lia | omega))) ?_⟩
      have hsuf := beh_suffix _ _ _ _ _ e2
      have a' : At W j (toks rest') := by
        refine at_suffix (i := i + o.T.length) a.drop hsuf ?_
        rw [ej, List.length_append]; (first | lia | omega)
      cases rest' with
      | nil =>
        have ej' : j = i + (o.T ++ toks rest).length := ej
        have fj : (W.tok j).among stops3 = true := by rw [ej']; exact fo
        have fin : expr (f + 1) o rest = some t := by unfold expr; rw [e1]; dsimp only; rw [e2]
        have kt := among_of fj
        have k1 : ((W.tok j).kind == "sign" && (W.tok j).text == "=") = false := by
          have := List.all_eq_true.mp (by decide : (stops3.all fun p => !(p.1 == "sign" && p.2 == "=")) = true) _ kt
          rw [Bool.not_eq_true'] at this
          exact this
        have k2 : ((W.tok j).kind == "sign" && strIn (W.tok j).text UPD) = false := by
          have := List.all_eq_true.mp (by decide : (stops3.all fun p => !(p.1 == "sign" && strIn p.2 UPD)) = true) _ kt
          rw [Bool.not_eq_true'] at this
          exact this
        try refine S_cons ?_
        refine S_ifB (B := false) ?_ ?_
        · repeat k_memK
          cases hk : (W.tok j).kind == "sign" with
          | false => rw [if_neg (by decide)]; exact ⟨rfl, rfl⟩
          | true =>
            rw [hk, Bool.true_and] at k1
            rw [if_pos rfl]
            repeat k_memK
            rw [k1, if_neg (by decide)]
            exact ⟨rfl, rfl⟩
        rw [if_neg (by decide)]
        refine S_nil ?_
        try refine S_cons ?_
        refine S_ifB (B := false) ?_ ?_
        · repeat k_memK
          cases hk : (W.tok j).kind == "sign" with
          | false => rw [if_neg (by decide)]; exact ⟨rfl, rfl⟩
          | true =>
            rw [hk, Bool.true_and] at k2
            rw [if_pos rfl]
            repeat k_memK
            refine E_gl (v := .tup (UPD.map .str)) rfl g_UPDATES t_UPD ?_
            refine cmp_inTS ?_
            rw [k2, if_neg (by decide)]
            exact ⟨rfl, rfl⟩
        rw [if_neg (by decide)]
        refine S_nil ?_
        repeat k_memK
        exact retq (q t fin σ' (by rw [← ej']; exact h') ex)
      | cons it r =>
        obtain ⟨pre, hpre⟩ := hsuf
        have okit : OkItem N it := ok it (by rw [hpre]; simp)
        have okr : ∀ x ∈ r, OkItem N x := fun x hx => ok x (by rw [hpre]; simp [hx])
        have hlr : r.length < f := by
          have := congrArg List.length hpre
          rw [List.length_append, List.length_cons] at this
          (first | lia | omega)
        have t0 : W.tok j = sg it.op it.pos := a'.tok0
        have el : j + 1 + (it.o.T ++ toks r).length = i + (o.T ++ toks rest).length := by
          rw [← ej]
          show _ = j + (sg it.op it.pos :: (it.o.T ++ toks r)).length
          rw [List.length_cons]; (first | lia | omega)
        have again : ∀ {c' : Fc} {ρ' : List (Str × AV)} {Q' : AV → Store → Prop}, N + 3 * f + 13 ≤ c'.n → (∀ t2, expr f it.o r = some t2 → ∀ σ'', WAt σ'' W (i + (o.T ++ toks rest).length) → Ext W.x σ σ'' → Q' t2 σ'') →
            CallJ c' ρ' (.ref 364) [.loc W.x, .bool false] (σ'.set W.x (W.obj (j + 1))) Q' X := fun {c' ρ' Q'} hn' q' =>
          call_def0 c_read_expr b_read_expr (by (first | lia | omega)) ⟨rfl, rfl⟩ fun L => expr_all N f it.o r hlr okr okit.par okit.spot c' ρ' _ Q' X W (j + 1) (h'.to (j + 1)) a'.tail (by rw [el]; exact fo) (by (first | lia | omega))
            (fun t2 e3 σ'' h'' ex2 => q' t2 e3 σ'' (by rw [← el]; exact h'') (ex.trans (Ext.set.trans ex2))) (fun e3 σ'' ex2 => qx (by unfold expr; rw [e1]; dsimp only; rw [e2]; dsimp only; rw [e3]) σ'' (ex.trans (Ext.set.trans ex2))) L
        have fin : ∀ t2, expr f it.o r = some t2 → expr (f + 1) o rest = some (assT it.op t t2) := fun t2 e3 => by
          conv => lhs; unfold expr
          rw [e1]; dsimp only; rw [e2]; dsimp only; rw [e3]
        rw [t0]
        rcases ops_zero okit.op (beh_rest _ _ _ _ _ e2) with eo | eo
        · rw [eo]
          try refine S_cons ?_
          refine S_ifB (B := true) ?_ ?_
          · repeat k_memK
            rw [if_pos (by rfl)]
            repeat k_memK
            rw [if_pos (by rfl)]
            exact All_and_nil ⟨rfl, rfl⟩
          rw [if_pos rfl]
          repeat k_memK
          refine ⟨W, j, rfl, h', take_ok h' hj (calleeN (by (first | lia | omega))) (by rw [t0]; exact (by decide : ("sign" : Str) ≠ "end")) ?_⟩
          repeat k_memK
          refine spot_sub (fun _ _ => ⟨_, rfl⟩) es ?_
          repeat k_memK
          refine E_fn rfl g_read_expr rfl ?_
          repeat k_memK
          refine again (calleeN (by (first | lia | omega))) fun t2 e3 σ'' h'' ex2 => ?_
          repeat k_memK
          refine retq (q _ ?_ σ'' h'' ex2)
          rw [fin t2 e3, eo]
          unfold assT spotD
          rw [es]; rfl
        · rw [eo]
          try refine S_cons ?_
          refine S_ifB (B := false) ?_ ?_
          · repeat k_memK
            rw [if_pos (by rfl)]
            repeat k_memK
            rw [if_neg (nt (by rfl))]
            exact ⟨rfl, rfl⟩
          rw [if_neg (by decide)]
          refine S_nil ?_
          try refine S_cons ?_
          refine S_ifB (B := true) ?_ ?_
          · repeat k_memK
            rw [if_pos (by rfl)]
            repeat k_memK
            refine E_gl (v := .tup (UPD.map .str)) rfl g_UPDATES t_UPD ?_
            refine cmp_inTS ?_
            rw [show strIn (sg "+=" it.pos).text UPD = true from (by decide : strIn "+=" UPD = true), if_pos rfl]
            exact All_and_nil ⟨rfl, rfl⟩
          rw [if_pos rfl]
          repeat k_memK
          refine ⟨W, j, rfl, h', take_ok h' hj (calleeN (by (first | lia | omega))) (by rw [t0]; exact (by decide : ("sign" : Str) ≠ "end")) ?_⟩
          repeat k_memK
          refine spot_sub (fun _ _ => ⟨_, rfl⟩) es ?_
          repeat k_memK
          refine E_neg (i := 1) ?_
          repeat k_memK
          refine ⟨rfl, _, rfl, "+=", rfl, by rw [sizeLine_eq]; decide, ?_⟩
          rw [show sliceS "+=" none (some (-1)) = "+" by decide]
          repeat k_memK
          refine E_fn rfl g_read_expr rfl ?_
          repeat k_memK
          refine again (calleeN (by (first | lia | omega))) fun t2 e3 σ'' h'' ex2 => ?_
          repeat k_memK
          refine retq (q _ ?_ σ'' h'' ex2)
          rw [fin t2 e3, eo]
          unfold assT spotD
          rw [es]; rfl
    · unfold expr
      rcases e with e | ⟨t₀, e1, e2⟩
      · rw [e]
      · rw [e1]; dsimp only; rw [e2]
end

/-! # Text WPK -/
section
variable {c : Fc} {ρ : List (Str × AV)} {P : List (Value × AV)} {σ : Store} {Q : AV → Store → Prop} {X : Store → Prop}
theorem Par.more {f : Addr} {l : List AV} {T : List Tk} {r : Option AV} {N N' : Nat} {F F' : List (Str × Str)} (h : Par f l T r N F) (hN : N ≤ N') (hF : ∀ p ∈ F', p ∈ F) : Par f l T r N' F' := fun c ρ σ Q X W i w a fo hn q qx => h c ρ σ Q X W i w a (among_up fo hF) (by (first | lia | omega)) q qx
theorem unary_name {x : Str} {p : Int} (hx : x ∈ nms) : Par 406 [.bool false] [nm x p] (some (pathT x p)) 14 stops1 := by
  have h := unary_base (T1 := [nm x p]) (T2 := []) (r1 := some (pathT x p)) (f := id) (N1 := 8) (N2 := 3) ⟨_, _, rfl, ?_⟩ (.inl rfl) (prim_name hx) (fun b _ => post0)
  · exact h
  · exact List.any_eq_true.mpr ⟨("name", x), List.mem_append_left _ (List.mem_map_of_mem hx), by simp⟩
theorem opn_name {x : Str} {p : Int} (hx : x ∈ nms) : Par 392 [.bool false] [nm x p] (some (pathT x p)) 18 stops2 := by
  have h := cast_ok (T1 := [nm x p]) (T2 := []) (r1 := some (pathT x p)) (f := id) (N1 := 14) (N2 := 3) (.inl rfl) (unary_name hx) (fun b _ => cast0)
  exact h
/-- `read_expr(words)`, given what its operands do -/
theorem read_expr_ok {N : Nat} {o : Opn} {rest : List Item} (ok : ∀ it ∈ rest, OkItem N it) (op : Par 392 [.bool false] o.T o.r N stops2) (os : ∀ t, o.r = some t → t.spot.isSome = true) : Par 364 [] (o.T ++ toks rest) (expr (rest.length + 1) o rest) (N + 3 * (rest.length + 1) + 13) stops3 := fun c ρ σ Q X W i h a fo hn q qx =>
  call_def1 c_read_expr d_read_expr (fun h => rfl) (by (first | lia | omega)) ⟨rfl, rfl⟩ fun L => expr_all N _ o rest (Nat.lt_succ_self _) ok op os c ρ σ Q X W i h a fo (by (first | lia | omega)) q qx L
theorem expr_name {x : Str} {p : Int} (hx : x ∈ nms) : Par 364 [] [nm x p] (some (pathT x p)) 34 stops3 := by
  have h := read_expr_ok (N := 18) (o := ⟨[nm x p], some (pathT x p)⟩) (rest := []) (fun _ h => nomatch h) (opn_name hx) (fun t e => by cases e; rfl)
  exact h
theorem list0_ok {W : Ws} {i : Nat} {p p2 : Int} (h : WAt σ W i) (a : At W i [sg "(" p, sg ")" p2]) (hn : 4 ≤ c.n) (q : ∀ σ', WAt σ' W (i + 2) → Ext W.x σ σ' → Q (.tup []) σ') : CallJ c ρ (.ref 448) [.loc W.x, .str "(", .str ")"] σ Q X := by
  have hi := a.le
  simp only [List.length_cons, List.length_nil] at hi
  refine call_def0 c_read_list b_read_list (by (first | lia | omega)) (ρ₀ := [("words", .loc W.x), ("begin", .str "("), ("end", .str ")")]) ⟨rfl, rfl⟩ fun L => ?_
  conv => arg 3; whnf
  repeat k_memK
  refine ⟨W, i, rfl, h, ?_⟩
  repeat k_memK
  refine expect_ok h (by (first | lia | omega)) (calleeN (by (first | lia | omega))) (by rw [a.tok0]; rfl) ?_
  repeat k_memK
  intro F hF
  have f := (h.to (i + 1)).fresh hF Ext.set
  have h1 := (h.to (i + 1)).new hF (cl := .list [])
  have ex1 : Ext W.x σ _ := Ext.set.trans (Ext.new hF (c := .list []))
  try refine S_cons ?_
  refine S_while1 ?_
  repeat k_memK
  refine ⟨W, _, rfl, h1, ?_⟩
  repeat k_memK
  refine looks0_ok h1 (by (first | lia | omega)) (calleeN (by (first | lia | omega))) ⟨_, rfl, ?_⟩
  rw [a.tok1, if_neg (nt (by rfl))]
  repeat k_memK
  refine ⟨W, _, rfl, h1, ?_⟩
  repeat k_memK
  refine expect_ok h1 (by (first | lia | omega)) (calleeN (by (first | lia | omega))) (by rw [a.tok1]; rfl) ?_
  repeat k_memK
  refine call_tupL (as := []) ((Store.set_ne f.x).trans Store.set_same) (by simp) ?_
  exact retq (q _ (h1.to (i + 2)) (ex1.trans Ext.set))
theorem list1_ok {W : Ws} {i : Nat} {x : Str} {p p1 p2 : Int} (h : WAt σ W i) (a : At W i [sg "(" p, nm x p1, sg ")" p2]) (hx : x ∈ nms) (hn : 36 ≤ c.n) (q : ∀ σ', WAt σ' W (i + 3) → Ext W.x σ σ' → Q (.tup [pathT x p1]) σ') : CallJ c ρ (.ref 448) [.loc W.x, .str "(", .str ")"] σ Q X := by
  have hi := a.le
  simp only [List.length_cons, List.length_nil] at hi
  have t2 : W.tok (i + 2) = sg ")" p2 := a.tok (k := 2) rfl
  refine call_def0 c_read_list b_read_list (by (first | lia | omega)) (ρ₀ := [("words", .loc W.x), ("begin", .str "("), ("end", .str ")")]) ⟨rfl, rfl⟩ fun L => ?_
  conv => arg 3; whnf
  repeat k_memK
  refine ⟨W, i, rfl, h, ?_⟩
  repeat k_memK
  refine expect_ok h (by (first | lia | omega)) (calleeN (by (first | lia | omega))) (by rw [a.tok0]; rfl) ?_
  repeat k_memK
  intro F hF
  have f := (h.to (i + 1)).fresh hF Ext.set
  have h1 := (h.to (i + 1)).new hF (cl := .list [])
  have ex1 : Ext W.x σ _ := Ext.set.trans (Ext.new hF (c := .list []))
  try refine S_cons ?_
  refine S_while1 ?_
  repeat k_memK
  refine ⟨W, _, rfl, h1, ?_⟩
  repeat k_memK
  refine looks0_ok h1 (by (first | lia | omega)) (calleeN (by (first | lia | omega))) ⟨_, rfl, ?_⟩
  rw [a.tok1, nm_is hx (by decide), if_pos (by decide)]
  repeat k_memK
  refine ⟨F, [], rfl, Store.set_same, ?_⟩
  refine E_fn rfl g_read_expr rfl ?_
  repeat k_memK
  refine expr_name hx _ _ _ _ _ W (i + 1) h1 (At.take (b := [sg ")" p2]) a.tail) (by show (W.tok (i + 2)).among stops3 = true; rw [t2]; rfl) (calleeN (by (first | lia | omega))) (fun t et σ' h' ex => ?_) (fun e => by cases e)
  cases et
  have hF' : σ' F = some (.list []) := ex F _ f.x Store.set_same
  have h2 : WAt (σ'.set F (.list ([] ++ [pathT x p1]))) W (i + 2) := h'.put f
  have ex2 : Ext W.x σ (σ'.set F (.list ([] ++ [pathT x p1]))) := (ex1.trans ex).put f
  refine ⟨[], hF', by simp, ?_⟩
  repeat k_memK
  refine ⟨W, _, rfl, h2, ?_⟩
  repeat k_memK
  refine looks0_ok h2 (by (first | lia | omega)) (calleeN (by (first | lia | omega))) ⟨_, rfl, ?_⟩
  rw [t2, if_pos (by rfl)]
  repeat k_memK
  refine ⟨W, _, rfl, h2, ?_⟩
  repeat k_memK
  refine expect_ok h2 (by (first | lia | omega)) (calleeN (by (first | lia | omega))) (by rw [t2]; rfl) ?_
  repeat k_memK
  refine call_tupL (as := [pathT x p1]) ((Store.set_ne f.x).trans Store.set_same) (by simp [sizeLine_eq]) ?_
  exact retq (q _ (h2.to (i + 3)) (ex2.trans Ext.set))
/-- `read_member`, a field -/
theorem member_field {W : Ws} {i : Nat} {x : Str} {p s : Int} {b : AV} (h : WAt σ W i) (a : At W i [nm x p]) (hx : x ∈ nms) (hb : b.spot = some s) (hn : 4 ≤ c.n) (fo : (W.tok (i + 1)).among stops1 = true) (q : ∀ σ', WAt σ' W (i + 1) → Ext W.x σ σ' → Q (.tup [.str "field", .int s, b, .str x]) σ') :
    CallJ c ρ (.ref 427) [.loc W.x, b] σ Q X := by
  have hi := a.le
  simp only [List.length_cons, List.length_nil] at hi
  have h1 := h.to (i + 1)
  refine call_def0 c_read_member b_read_member (by (first | lia | omega)) (ρ₀ := [("words", .loc W.x), ("left", b)]) ⟨rfl, rfl⟩ fun L => ?_
  conv => arg 3; whnf
  repeat k_memK
  refine ⟨W, i, rfl, h, peek0_ok h (by (first | lia | omega)) (calleeN (by (first | lia | omega))) ?_⟩
  rw [a.tok0]
  repeat k_memK
  rw [if_neg (nt (by rfl))]
  refine S_nil ?_
  try refine S_cons ?_
  refine S_pair rfl rfl ?_ rfl rfl
  repeat k_memK
  refine ⟨W, i, rfl, h, name_ok h (by (first | lia | omega)) (calleeN (by (first | lia | omega))) (by rw [a.tok0]) (by rw [a.tok0]; exact nm_in hx (by decide)) ?_⟩
  rw [a.tok0]
  refine ⟨_, _, rfl, ?_⟩
  repeat k_memK
  refine ⟨W, _, rfl, h1, ?_⟩
  repeat k_memK
  refine looks0_ok h1 (by (first | lia | omega)) (calleeN (by (first | lia | omega))) ⟨_, rfl, ?_⟩
  rw [among_is fo (by decide), if_neg (by decide)]
  refine S_nil ?_
  repeat k_memK
  refine ⟨W, _, rfl, h1, ?_⟩
  repeat k_memK
  refine looks0_ok h1 (by (first | lia | omega)) (calleeN (by (first | lia | omega))) ⟨_, rfl, ?_⟩
  rw [among_is fo (by decide), if_neg (by decide)]
  refine S_nil ?_
  repeat k_memK
  refine spot_sub (fun _ _ => ⟨_, rfl⟩) hb ?_
  repeat k_memK
  exact retq (q _ h1 Ext.set)
theorem member_method {W : Ws} {i : Nat} {x : Str} {p p1 p2 s : Int} {b : AV} (h : WAt σ W i) (a : At W i [nm x p, sg "(" p1, sg ")" p2]) (hx : x ∈ nms) (hb : b.spot = some s) (hn : 6 ≤ c.n) (q : ∀ σ', WAt σ' W (i + 3) → Ext W.x σ σ' → Q (.tup [.str "method", .int s, b, .str x, .tup [], .tup []]) σ') :
    CallJ c ρ (.ref 427) [.loc W.x, b] σ Q X := by
  have hi := a.le
  simp only [List.length_cons, List.length_nil] at hi
  have h1 := h.to (i + 1)
  refine call_def0 c_read_member b_read_member (by (first | lia | omega)) (ρ₀ := [("words", .loc W.x), ("left", b)]) ⟨rfl, rfl⟩ fun L => ?_
  conv => arg 3; whnf
  repeat k_memK
  refine ⟨W, i, rfl, h, peek0_ok h (by (first | lia | omega)) (calleeN (by (first | lia | omega))) ?_⟩
  rw [a.tok0]
  repeat k_memK
  rw [if_neg (nt (by rfl))]
  refine S_nil ?_
  try refine S_cons ?_
  refine S_pair rfl rfl ?_ rfl rfl
  repeat k_memK
  refine ⟨W, i, rfl, h, name_ok h (by (first | lia | omega)) (calleeN (by (first | lia | omega))) (by rw [a.tok0]) (by rw [a.tok0]; exact nm_in hx (by decide)) ?_⟩
  rw [a.tok0]
  refine ⟨_, _, rfl, ?_⟩
  repeat k_memK
  refine ⟨W, _, rfl, h1, ?_⟩
  repeat k_memK
  refine looks0_ok h1 (by (first | lia | omega)) (calleeN (by (first | lia | omega))) ⟨_, rfl, ?_⟩
  rw [a.tok1, if_neg (nt (by rfl))]
  refine S_nil ?_
  repeat k_memK
  refine ⟨W, _, rfl, h1, ?_⟩
  repeat k_memK
  refine looks0_ok h1 (by (first | lia | omega)) (calleeN (by (first | lia | omega))) ⟨_, rfl, ?_⟩
  rw [a.tok1, if_pos (by rfl)]
  repeat k_memK
  refine spot_sub (fun _ _ => ⟨_, rfl⟩) hb ?_
  repeat k_memK
  refine E_fn rfl g_read_list rfl ?_
  repeat k_memK
  refine list0_ok h1 a.tail (calleeN (by (first | lia | omega))) fun σ' h' ex => ?_
  repeat k_memK
  exact retq (q _ h' (Ext.set.trans ex))
/-- the second turn of `read_postfix`: nothing more stands behind -/
theorem post_end {L : Addr} {W : Ws} {j : Nat} {b : AV} {Q' : Fl → List (Str × AV) → Store → Prop} {σ' : Store} {ρ' : List (Str × AV)} (hs : SubL ρ' (Lv [("words", .loc W.x), ("left", b)])) (h : WAt σ' W j) (hj : j ≤ W.ts.length) (hn : 3 ≤ c.n) (fo : (W.tok j).among stops1 = true) (q : Q' (.ret b) (Lv [("words", .loc W.x), ("left", b)]) σ') :
    JS (calleeFc c 420 L ["words", "left", "index"] ["read_list", "read_expr", "read_member"]) ρ' (match (bodyOf 420) with | [.While _ b _ _] => b | _ => []) σ' Q' X := by
  refine JT.sub (ρ₀ := Lv [("words", .loc W.x), ("left", b)]) ?_ hs
  show JS _ _ _ _ _ _
  conv => arg 3; whnf
  repeat k_memK
  refine ⟨W, _, rfl, h, ?_⟩
  repeat k_memK
  refine looks0_ok h hj (calleeN hn) ⟨_, rfl, ?_⟩
  rw [among_is fo (by decide), if_neg (by decide)]
  repeat k_memK
  refine ⟨W, _, rfl, h, ?_⟩
  repeat k_memK
  refine looks0_ok h hj (calleeN hn) ⟨_, rfl, ?_⟩
  rw [among_is fo (by decide), if_neg (by decide)]
  repeat k_memK
  refine ⟨W, _, rfl, h, ?_⟩
  repeat k_memK
  refine looks0_ok h hj (calleeN hn) ⟨_, rfl, ?_⟩
  rw [among_is fo (by decide), if_neg (by decide)]
  repeat k_memK
  all_goals exact q
end
noncomputable abbrev postBody : List Stmt := match (bodyOf 420) with | [.While _ b _ _] => b | _ => []
theorem post_one {b b' : AV} {T : List Tk} {N : Nat} (hN : 3 ≤ N) (turn : ∀ (c : Fc) (L : Addr) (σ : Store) (X : Store → Prop) (W : Ws) (i : Nat) (Q' : Fl → List (Str × AV) → Store → Prop), WAt σ W i → At W i T → (W.tok (i + T.length)).among stops1 = true → N ≤ c.n →
    (∀ ρ' σ', SubL ρ' (Lv [("words", .loc W.x), ("left", b')]) → WAt σ' W (i + T.length) → Ext W.x σ σ' → Q' .next ρ' σ') → JS (calleeFc c 420 L ["words", "left", "index"] ["read_list", "read_expr", "read_member"]) (Lv [("words", .loc W.x), ("left", b)]) postBody σ Q' X) :
    Par 420 [b] T (some b') N stops1 := fun c ρ σ Q X W i h a fo hn q _ => by
  refine call_def0 c_read_postfix b_read_postfix (by (first | lia | omega)) (ρ₀ := [("words", .loc W.x), ("left", b)]) ⟨rfl, rfl⟩ fun L => ?_
  have hi := a.le
  refine S_cons (S_whileT (k := 0) (fun n ρ' σ' => (n = 1 ∧ ρ' = Lv [("words", .loc W.x), ("left", b)] ∧ σ' = σ) ∨ (n = 0 ∧ SubL ρ' (Lv [("words", .loc W.x), ("left", b')]) ∧ WAt σ' W (i + T.length) ∧ Ext W.x σ σ')) (fun n ρ' σ' hI => ?_) 1 (.inl ⟨rfl, rfl, rfl⟩))
  rcases hI with ⟨rfl, rfl, rfl⟩ | ⟨rfl, hs, h', ex⟩
  · refine ⟨Lv [("words", .loc W.x), ("left", b)], ⟨rfl, rfl, trivial⟩, turn c L _ X W i _ h a fo hn fun ρ' σ' hs h' ex => ⟨0, by (first | lia | omega), .inr ⟨rfl, hs, h', ex⟩⟩⟩
  · exact ⟨_, hs, post_end ⟨rfl, rfl, trivial⟩ h' (by (first | lia | omega)) (by (first | lia | omega)) fo (retq (q _ rfl σ' h' ex))⟩
section
variable {c : Fc} {ρ : List (Str × AV)} {P : List (Value × AV)} {σ : Store} {Q : AV → Store → Prop} {X : Store → Prop}
theorem post_call {b : AV} {s p p1 p2 : Int} {x : Str} (hx : x ∈ nms) (hb : b.spot = some s) : Par 420 [b] [sg "(" p, nm x p1, sg ")" p2] (some (.tup [.str "call", .int s, b, .tup [pathT x p1]])) 38 stops1 :=
  post_one (by decide) fun c L σ X W i Q' h a fo hn q => by
    have hi : i ≤ W.ts.length := by have := a.le; (first | lia | omega)
    conv => arg 3; whnf
    repeat k_memK
    refine ⟨W, _, rfl, h, ?_⟩
    repeat k_memK
    refine looks0_ok h hi (calleeN (by (first | lia | omega))) ⟨_, rfl, ?_⟩
    rw [a.tok0, if_pos (by rfl)]
    repeat k_memK
    refine spot_sub (fun _ _ => ⟨_, rfl⟩) hb ?_
    repeat k_memK
    refine E_fn rfl g_read_list rfl ?_
    repeat k_memK
    refine list1_ok h a hx (calleeN (by (first | lia | omega))) fun σ' h' ex => ?_
    repeat k_memK
    repeat refine S_nil ?_
    refine q _ σ' ?_ h' ex
    exact ⟨rfl, rfl, trivial⟩
theorem post_index {b : AV} {s p p1 p2 : Int} {x : Str} (hx : x ∈ nms) (hb : b.spot = some s) : Par 420 [b] [sg "[" p, nm x p1, sg "]" p2] (some (.tup [.str "index", .int s, b, pathT x p1])) 38 stops1 :=
  post_one (by decide) fun c L σ X W i Q' h a fo hn q => by
    have hi := a.le
    simp only [List.length_cons, List.length_nil] at hi
    have t2 : W.tok (i + 2) = sg "]" p2 := a.tok (k := 2) rfl
    conv => arg 3; whnf
    repeat k_memK
    refine ⟨W, _, rfl, h, ?_⟩
    repeat k_memK
    refine looks0_ok h (by (first | lia | omega)) (calleeN (by (first | lia | omega))) ⟨_, rfl, ?_⟩
    rw [a.tok0, if_neg (nt (by rfl))]
    repeat k_memK
    refine ⟨W, _, rfl, h, ?_⟩
    repeat k_memK
    refine looks0_ok h (by (first | lia | omega)) (calleeN (by (first | lia | omega))) ⟨_, rfl, ?_⟩
    rw [a.tok0, if_pos (by rfl)]
    repeat k_memK
    refine ⟨W, _, rfl, h, take_ok h (by (first | lia | omega)) (calleeN (by (first | lia | omega))) (by rw [a.tok0]; exact (by decide : ("sign" : Str) ≠ "end")) ?_⟩
    repeat k_memK
    refine E_fn rfl g_read_expr rfl ?_
    repeat k_memK
    refine expr_name hx _ _ _ _ _ W (i + 1) (h.to (i + 1)) (At.take (b := [sg "]" p2]) a.tail) (by show (W.tok (i + 2)).among stops3 = true; rw [t2]; rfl) (calleeN (by (first | lia | omega))) (fun t et σ' h' ex => ?_) (fun e => by cases e)
    cases et
    repeat k_memK
    refine ⟨W, _, rfl, h', ?_⟩
    repeat k_memK
    refine expect_ok h' (by show i + 2 ≤ _; (first | lia | omega)) (calleeN (by (first | lia | omega))) (by show (W.tok (i + 2)).is "]" = true; rw [t2]; rfl) ?_
    repeat k_memK
    refine spot_sub (fun _ _ => ⟨_, rfl⟩) hb ?_
    repeat k_memK
    repeat refine S_nil ?_
    refine q _ _ ?_ (h'.to (i + 3)) ((Ext.set.trans ex).trans Ext.set)
    exact ⟨rfl, rfl, trivial⟩
theorem post_field {b : AV} {s p p1 : Int} {x : Str} (hx : x ∈ nms) (hb : b.spot = some s) : Par 420 [b] [sg "." p, nm x p1] (some (.tup [.str "field", .int s, b, .str x])) 10 stops1 :=
  post_one (by decide) fun c L σ X W i Q' h a fo hn q => by
    have hi : i ≤ W.ts.length := by have := a.le; (first | lia | omega)
    conv => arg 3; whnf
    repeat k_memK
    refine ⟨W, _, rfl, h, ?_⟩
    repeat k_memK
    refine looks0_ok h hi (calleeN (by (first | lia | omega))) ⟨_, rfl, ?_⟩
    rw [a.tok0, if_neg (nt (by rfl))]
    repeat k_memK
    refine ⟨W, _, rfl, h, ?_⟩
    repeat k_memK
    refine looks0_ok h hi (calleeN (by (first | lia | omega))) ⟨_, rfl, ?_⟩
    rw [a.tok0, if_neg (nt (by rfl))]
    repeat k_memK
    refine ⟨W, _, rfl, h, ?_⟩
    repeat k_memK
    refine looks0_ok h hi (calleeN (by (first | lia | omega))) ⟨_, rfl, ?_⟩
    rw [a.tok0, if_pos (by rfl)]
    repeat k_memK
    refine ⟨W, _, rfl, h, take_ok h hi (calleeN (by (first | lia | omega))) (by rw [a.tok0]; exact (by decide : ("sign" : Str) ≠ "end")) ?_⟩
    repeat k_memK
    refine E_fn rfl g_read_member rfl ?_
    repeat k_memK
    refine member_field (h.to (i + 1)) a.tail hx hb (calleeN (by (first | lia | omega))) fo fun σ' h' ex => ?_
    repeat refine S_nil ?_
    refine q _ σ' ?_ h' (Ext.set.trans ex)
    exact ⟨rfl, rfl, trivial⟩
theorem post_method {b : AV} {s p p1 p2 p3 : Int} {x : Str} (hx : x ∈ nms) (hb : b.spot = some s) : Par 420 [b] [sg "." p, nm x p1, sg "(" p2, sg ")" p3] (some (.tup [.str "method", .int s, b, .str x, .tup [], .tup []])) 10 stops1 :=
  post_one (by decide) fun c L σ X W i Q' h a fo hn q => by
    have hi : i ≤ W.ts.length := by have := a.le; (first | lia | omega)
    conv => arg 3; whnf
    repeat k_memK
    refine ⟨W, _, rfl, h, ?_⟩
    repeat k_memK
    refine looks0_ok h hi (calleeN (by (first | lia | omega))) ⟨_, rfl, ?_⟩
    rw [a.tok0, if_neg (nt (by rfl))]
    repeat k_memK
    refine ⟨W, _, rfl, h, ?_⟩
    repeat k_memK
    refine looks0_ok h hi (calleeN (by (first | lia | omega))) ⟨_, rfl, ?_⟩
    rw [a.tok0, if_neg (nt (by rfl))]
    repeat k_memK
    refine ⟨W, _, rfl, h, ?_⟩
    repeat k_memK
    refine looks0_ok h hi (calleeN (by (first | lia | omega))) ⟨_, rfl, ?_⟩
    rw [a.tok0, if_pos (by rfl)]
    repeat k_memK
    refine ⟨W, _, rfl, h, take_ok h hi (calleeN (by (first | lia | omega))) (by rw [a.tok0]; exact (by decide : ("sign" : Str) ≠ "end")) ?_⟩
    repeat k_memK
    refine E_fn rfl g_read_member rfl ?_
    repeat k_memK
    refine member_method (h.to (i + 1)) a.tail hx hb (calleeN (by (first | lia | omega))) fun σ' h' ex => ?_
    repeat refine S_nil ?_
    refine q _ σ' ?_ h' (Ext.set.trans ex)
    exact ⟨rfl, rfl, trivial⟩
end

/-! # Text WFOR -/
/-! # For loops -/
noncomputable def TgtJ (c : Fc) (ρ : List (Str × AV)) (target : Expr) (a : AV) (σ : Store) (ρ₂ : List (Str × AV)) : Prop := ∀ A outer s v, InFr c ρ [] A outer s σ → VRel s.heap v a → ∀ (Q' : Unit → Shared → Prop) (E' : Value → Shared → Prop),
  (∀ s', InFr c ρ₂ [] A outer s' σ → Good c.w c.H (some c.env.locals) s σ s' σ → Q' () s') → wpAny (model pw c.w) A (assign target c.env v) Q' E' s
/-- an iterator of the list `as` -/
structure Iter (c : Fc) (it : Addr) (as : List AV) (side : Store → Prop) (St : Nat → Heap → Prop) : Prop where
  next : ∀ {A : Around} {E : Value → Shared → Prop} {ρ outer s σ k a} {Q : Option Value → Shared → Prop}, InFr c ρ [] A outer s σ → side σ → St k s.heap → as[k]? = some a →
    (∀ v h' tk, Heap.SameBut it s.heap h' → VRel h' v a → St (k + 1) h' → Q (some v) { s with heap := h', toks := tk }) → wpAny (model pw c.w) A (pyNext (.ref it)) Q E s
  stop : ∀ {A : Around} {E : Value → Shared → Prop} {ρ outer s σ k} {Q : Option Value → Shared → Prop}, InFr c ρ [] A outer s σ → side σ → St k s.heap → as[k]? = none →
    (∀ h' tk, Heap.ExtBut it s.heap h' → Q none { s with heap := h', toks := tk }) → wpAny (model pw c.w) A (pyNext (.ref it)) Q E s
  keeps : ∀ {k h h'}, St k h → (∀ b o, h.get? b = some o → (b = it ∨ Tup o) → h'.get? b = some o) → St k h'
  there : ∀ {k h}, St k h → ∃ o, h.get? it = some o ∧ ¬ Tup o
section
variable {c : Fc} {ρ : List (Str × AV)} {σ : Store} {Q : Fl → List (Str × AV) → Store → Prop} {X : Store → Prop}
theorem tgt_name {x : Str} {px : Pos} {a : AV} (hx : c.loc.contains x = true) : TgtJ c ρ (.Name x px) a σ (upd ρ x a) := fun A outer s v F r Q' E' q =>
  wpAny_assign_Name (storeName_ hx F r fun s' F' G => q s' F' G)
theorem tgt_pair {x y : Str} {px py tp : Pos} {k : Nat} {a a1 a2 : AV} (hx : c.loc.contains x = true) (hy : c.loc.contains y = true) (hi : Items σ a [a1, a2]) : TgtJ c ρ (.Tuple [.Name x px, .Name y py] k tp) a σ (upd (upd ρ x a1) y a2) := fun A outer s v F r Q' E' q => by
  show wpAny _ _ (do standAt tp; let items ← holding [v] (unpackItems v 2 none); assignInOrder [assign (.Name x px) c.env, assign (.Name y py) c.env] items) _ _ s
  refine wpAny_bind (wpAny_standAt ?_)
  refine wpAny_bind (wpAny_holding (items_ (n := 2) rfl F r hi fun vs h' hk rs => ?_))
  have G2 : Good c.w c.H none s σ { s with heap := h' } σ := .keep F.ok ⟨rfl, rfl, rfl⟩ hk
  have F₂ := F.stepL G2
  obtain ⟨v1, v2, rfl, r1, r2⟩ := vrels2 rs
  show wpAny _ _ (do holding [v2] (assign (.Name x px) c.env v1); (do holding [] (assign (.Name y py) c.env v2); pure ())) _ _ _
  have F₂' : InFr c ρ [(v2, a2)] A outer { s with heap := h' } σ := { F₂ with pend := fun p hp => by cases List.mem_singleton.mp hp; exact r2 }
  refine wpAny_bind (wpAny_holding (wpAny_assign_Name ?_))
  refine storeName_ hx F₂' r1 fun s₃ F₃ G₃ => ?_
  refine wpAny_bind (wpAny_holding (wpAny_assign_Name (storeName_ hy F₃.bare (F₃.pend _ (.head _)) fun s₄ F₄ G₄ => wpAny_pure ?_)))
  exact q s₄ F₄ ((G2.up.trans G₃ (frameK F₂)).trans G₄ (frameK F₃.bare))
theorem for_core {target : Expr} {it : Addr} {as : List AV} {side : Store → Prop} {St : Nat → Heap → Prop} {body : List Stmt} {A : Around} {outer : List Env} {s : Shared} (IT : Iter c it as side St) (I : Nat → List (Str × AV) → Store → Prop)
    (hside : ∀ k ρ' σ', I k ρ' σ' → side σ') (turn : ∀ k a ρ' σ', as[k]? = some a → I k ρ' σ' → ∃ ρ₁ ρ₂, SubL ρ' ρ₁ ∧ TgtJ c ρ₁ target a σ' ρ₂ ∧ JS c ρ₂ body σ' (loopQ (I (k + 1)) Q) X)
    (fin : ∀ ρ' σ', I as.length ρ' σ' → ∃ ρ₁, SubL ρ' ρ₁ ∧ Q .next ρ₁ σ') {s₂ : Shared} {σ₂ : Store} (G : Good c.w c.H (some c.env.locals) s σ s₂ σ₂) (F : InFr c ρ [] A outer s₂ σ₂)
    (hL : ∀ b o, s.heap.get? b = some o → σ b = none → some c.env.locals ≠ some b → b ≠ it) (hit : σ₂ it = none) (hH : c.H.get? it = none) (hfr : ∀ e ∈ c.env :: outer, ∀ L, e.frame = some L → L ≠ it) (h0 : St 0 s₂.heap) (i0 : I 0 ρ σ₂) (hown : ∀ v, letOwnedTupleGo target (.ref it) v = pure () ∨ (∀ k s', St k s'.heap → ∀ Q' E', Q' () s' → wpAny (model pw c.w) A (letOwnedTupleGo target (.ref it) v) Q' E' s')) :
    codeAny (model pw c.w) A (.forLoop target (.ref it) body [] c.env) (fun r s' => match r with | .ok f => SPost c A outer s σ Q f s' | .error e => cameBackBy (model pw c.w) A c.env (SExc c s σ outer X) e s') s₂ := by
  have hE := passOwn (σ := σ) (X := X) (s := s) F.frames F.frame
  have hfo : c.env.locals ≠ it := hfr _ (.head _) _ F.frame
  refine codeAny_forLoop_any (fun n s' => ∃ k ρ' σ', n + k = as.length + 1 ∧ k ≤ as.length ∧ Good c.w c.H (some c.env.locals) s σ s' σ' ∧ InFr c ρ' [] A outer s' σ' ∧ σ' it = none ∧ St k s'.heap ∧ I k ρ' σ') (fun n s' ⟨k, ρ', σ', hn, hkl, G', F', hit', hst, hI⟩ => ?_) (as.length + 1) ⟨0, ρ, σ₂, by (first | lia | omega), by (first | lia | omega), G, F, hit, h0, i0⟩
  refine wpAny_passesOwn hE ?_
  have hsd := hside _ _ _ hI
  have chg : ∀ h' tk, (∀ b o, b ≠ it → s'.heap.get? b = some o → h'.get? b = some o) → InFr c ρ' [] A outer { s' with heap := h', toks := tk } σ' ∧ Good c.w c.H (some c.env.locals) s σ { s' with heap := h', toks := tk } σ' := fun h' tk k2 => by
    obtain ⟨o, eo, no⟩ := IT.there hst
    have F2 := F'.change (h' := h') (tk := tk) (fun b => b = it) k2 (fun b o' q e t => by subst q; rw [eo] at e; cases e; exact no t) (fun b q => by subst q; exact hit') (fun b q => by subst q; exact hH) (fun e he L hL q => hfr e he L hL q)
    refine ⟨F2, ⟨G'.rest, F2.ok, fun b o e n l => ?_, G'.old⟩⟩
    exact k2 b o (hL b o e n l) (G'.evo b o e n l)
  cases ha : as[k]? with
  | none =>
    refine IT.stop F' hsd hst ha fun h' tk he => ?_
    obtain ⟨F2, G2⟩ := chg h' tk (fun b o nb e => he b o nb e)
    have hk : k = as.length := by
      have h1 := List.getElem?_eq_none_iff.mp ha
      (first | lia | omega)
    subst hk
    obtain ⟨ρ₁, hs1, q⟩ := fin ρ' σ' hI
    exact wpAny_execs_nil ⟨.next, ρ₁, σ', G2, F2.sub hs1, trivial, q⟩
  | some a =>
    refine IT.next F' hsd hst ha fun v h' tk he r hst2 => ?_
    obtain ⟨F2, G2⟩ := chg h' tk (fun b o nb e => (he.2 b nb).trans e)
    have hlt := (List.getElem?_eq_some_iff.mp ha).1
    obtain ⟨ρ₁, ρ₂, hs1, ht, hb⟩ := turn k a ρ' σ' ha hI
    have body_ : wpAny (model pw c.w) A (assign target c.env v) (fun _ s₂ => wpAny (model pw c.w) A (execs body c.env) (fun f s₃ => match f with
            | .next | .cont => ∃ m, m < n ∧ ∃ k ρ' σ', m + k = as.length + 1 ∧ k ≤ as.length ∧ Good c.w c.H (some c.env.locals) s σ s₃ σ' ∧ InFr c ρ' [] A outer s₃ σ' ∧ σ' it = none ∧ St k s₃.heap ∧ I k ρ' σ'
            | .brk => SPost c A outer s σ Q .next s₃
            | .ret v => SPost c A outer s σ Q (.ret v) s₃) (notedBy (model pw c.w) A c.env fun e s' => cameBackBy (model pw c.w) A c.env (SExc c s σ outer X) e s') s₂) (notedBy (model pw c.w) A c.env fun e s' => cameBackBy (model pw c.w) A c.env (SExc c s σ outer X) e s') { s' with heap := h', toks := tk } := by
      refine ht A outer _ v (F2.sub hs1) r _ _ fun s₃ F₃ G₃ => ?_
      have G3 := G2.trans G₃ (frameK F2)
      have stk : ∀ {s₄ : Shared} {σ₄ : Store}, Good c.w c.H (some c.env.locals) s₃ σ' s₄ σ₄ → St (k + 1) s₃.heap → St (k + 1) s₄.heap := fun {s₄ σ₄} G4 st => IT.keeps st fun b o e q => by
        obtain ⟨m, hm, _⟩ := F₃.ns.is
        obtain ⟨oL, eL, nL⟩ := ns_notTup hm
        rcases q with rfl | t
        · exact G4.evo b o e hit' (fun q => hfo (by injection q))
        · exact G4.evo b o e (F₃.ok.tuple e t) (fun q => by injection q with q; rw [q, e] at eL; cases eL; exact nL t)
      have st3 : St (k + 1) s₃.heap := IT.keeps hst2 fun b o e q => by
        obtain ⟨m, hm, _⟩ := F2.ns.is
        obtain ⟨oL, eL, nL⟩ := ns_notTup hm
        rcases q with rfl | t
        · exact G₃.evo b o e hit' (fun q => hfo (by injection q))
        · exact G₃.evo b o e (F2.ok.tuple e t) (fun q => by injection q with q; rw [q, e] at eL; cases eL; exact nL t)
      refine wpAny_passesOwn hE (JT.go hb F₃ (fun f fl ρ₄ s₄ σ₄ G₄ F₄ r₄ q => ?_) (SExc.up G3 F₃))
      have G4 := G3.trans G₄ (frameK F₃)
      have it4 : σ₄ it = none := by
        obtain ⟨o, eo, _⟩ := IT.there st3
        exact G₄.old it o eo hit'
      cases f <;> cases fl <;> first | exact r₄.elim | skip
      · exact ⟨n - 1, by (first | lia | omega), k + 1, ρ₄, σ₄, by (first | lia | omega), by (first | lia | omega), G4, F₄, it4, stk G₄ st3, q⟩
      · exact ⟨.next, ρ₄, σ₄, G4, F₄, trivial, q⟩
      · exact ⟨n - 1, by (first | lia | omega), k + 1, ρ₄, σ₄, by (first | lia | omega), by (first | lia | omega), G4, F₄, it4, stk G₄ st3, q⟩
      · exact ⟨.ret _, ρ₄, σ₄, G4, F₄, r₄, q⟩
    rcases hown v with e | e
    · exact wpAny_of_eq e body_
    · exact e (k + 1) { s' with heap := h', toks := tk } hst2 _ _ body_
/-- `for .. in` a tuple -/
theorem iter_tup {it t : Addr} {as : List AV} : Iter c it as (fun _ => True) (fun k h => h.IsTupleIter it t k ∧ ∃ items : Array Value, h.IsTuple t items ∧ VRels h items.toList as) where
  next := fun {A E ρ outer s σ k a Q} F _ ⟨hit, items, ht, rs⟩ ha q => by
    obtain ⟨v, ev, r⟩ := rs.get ha
    refine wpAny_pyNext_tuple_item hit ht (x := v) (by simpa using ev) fun h' hit' hs => ?_
    have hT : ∀ b o, s.heap.get? b = some o → Tup o → h'.get? b = some o := fun b o e tt => (hs.2 b fun e2 => by
      subst e2
      obtain ⟨o', e', cl, _⟩ := hit
      rw [e] at e'; cases e'
      exact type_ne (by decide) (tt.1.symm.trans cl)).trans e
    refine q v h' s.toks hs (r.mono hT a) ⟨hit', items, ?_, rs.mono hT as⟩
    obtain ⟨o, e, cl, n, d⟩ := ht
    exact ⟨o, hT t o e ⟨cl, _, _, d⟩, cl, n, d⟩
  stop := fun {A E ρ outer s σ k Q} F _ ⟨hit, items, ht, rs⟩ ha q => by
    refine wpAny_pyNext_tuple_end F.handled hit ht ?_ fun h' he => q h' s.toks he
    rw [List.getElem?_eq_none_iff] at ha
    rw [Array.getElem?_eq_none]
    have := rs.length
    rw [Array.length_toList] at this
    (first | lia | omega)
  keeps := fun ⟨⟨o, e, cl, d⟩, items, ⟨o2, e2, cl2, n, d2⟩, rs⟩ k => ⟨⟨o, k _ _ e (.inl rfl), cl, d⟩, items, ⟨o2, k _ _ e2 (.inr ⟨cl2, _, _, d2⟩), cl2, n, d2⟩, rs.mono (fun b o e t => k b o e (.inr t)) as⟩
  there := fun ⟨⟨o, e, cl, d⟩, _⟩ => ⟨o, e, fun t => type_ne (by decide) (t.1.symm.trans cl)⟩
theorem S_forT {x : Str} {px pos : Pos} {iter : Expr} {body : List Stmt} (hx : c.loc.contains x = true) (I : Nat → List (Str × AV) → Store → Prop) {as : List AV}
    (h : Ev c ρ [] iter σ (fun a σ₁ => a = .tup as ∧ I 0 ρ σ₁) X)
    (turn : ∀ k a ρ' σ', as[k]? = some a → I k ρ' σ' → ∃ ρ₁, SubL ρ' ρ₁ ∧ JS c (upd ρ₁ x a) body σ' (loopQ (I (k + 1)) Q) X)
    (fin : ∀ ρ' σ', I as.length ρ' σ' → ∃ ρ₁, SubL ρ' ρ₁ ∧ Q .next ρ₁ σ') (hs : ∀ x, foldedSetIterable iter c.env x = pure x) : J1 c ρ (.For (.Name x px) iter body [] pos) σ Q X := fun A outer s F =>
  wpAny_For (h.go F (fun v a s₁ σ₁ G r ⟨e, i0⟩ => by
    subst e
    obtain ⟨t, o, n, vs, rfl, g, cl, d, rs⟩ := r
    have T : s₁.heap.IsTuple t vs.toArray := ⟨o, g, cl, n, d⟩
    have F₁ := F.stepL G
    refine wpAny_pyIter_tuple T ?_
    have G2 : Good c.w c.H none s₁ σ₁ { s₁ with heap := s₁.heap.push { cls := .type "tuple_iterator", data := .fields #[.ref t, .int 0 0] } } σ₁ := .keep F₁.ok ⟨rfl, rfl, rfl⟩ push_keep
    have F₂ := F₁.stepL G2
    have nw : ∀ b o, s₁.heap.get? b = some o → b ≠ s₁.heap.objs.size := fun b o e => Nat.ne_of_lt (Heap.lt_size e)
    have lt0 : ∀ b o, s.heap.get? b = some o → σ b = none → some c.env.locals ≠ some b → b ≠ s₁.heap.objs.size := fun b o e n _ => nw b o (G.evo b o e n (fun q => nomatch q))
    refine for_core (iter_tup (t := t)) I (fun _ _ _ _ => trivial) (fun k a ρ' σ' ha hI => ?_) fin (G.trans G2 noneK).up F₂ lt0 F₁.ok.fresh (none_at_end F₁.ok.stays) (fun e he L hL q => ?_) ⟨⟨_, Heap.get?_push_size _ rfl, rfl, rfl⟩, vs.toArray, T.push _, ?_⟩ i0 (fun v => .inl rfl)
    · obtain ⟨ρ₁, h1, h2⟩ := turn k a ρ' σ' ha hI
      exact ⟨ρ₁, _, h1, tgt_name hx, h2⟩
    · obtain ⟨⟨o, e'⟩, _⟩ := F₁.frameThere he hL
      exact nw _ _ e' q
    · rw [List.toList_toArray]
      exact rs.mono (fun b o e _ => push_keep b o e) as) fun _ _ x => SExc.of x) hs
/-- `for .. in` a list that stays as it is -/
theorem iter_list {it t : Addr} {as : List AV} : Iter c it as (fun σ => σ t = some (.list as)) (fun k h => h.IsListIter it t k) where
  next := fun {A E ρ outer s σ k a Q} F sd hit ha q => by
    obtain ⟨o, n, vs, g, cl, _, d, rs⟩ := cell_at F sd
    have T : s.heap.IsList t vs.toArray := ⟨o, g, cl, n, d⟩
    obtain ⟨v, ev, r⟩ := rs.get ha
    refine wpAny_pyNext_list_item hit T (x := v) (by simpa using ev) fun h' hit' hs => ?_
    have hT : ∀ b o, s.heap.get? b = some o → Tup o → h'.get? b = some o := fun b o e tt => (hs.2 b fun e2 => by
      subst e2
      obtain ⟨o', e', cl, _⟩ := hit
      rw [e] at e'; cases e'
      exact type_ne (by decide) (tt.1.symm.trans cl)).trans e
    exact q v h' s.toks hs (r.mono hT a) hit'
  stop := fun {A E ρ outer s σ k Q} F sd hit ha q => by
    obtain ⟨o, n, vs, g, cl, _, d, rs⟩ := cell_at F sd
    have T : s.heap.IsList t vs.toArray := ⟨o, g, cl, n, d⟩
    refine wpAny_pyNext_list_end F.handled hit T ?_ fun h' he => q h' s.toks he
    rw [List.getElem?_eq_none_iff] at ha
    rw [Array.getElem?_eq_none]
    rw [List.size_toArray, rs.length]
    exact ha
  keeps := fun ⟨o, e, cl, d⟩ k => ⟨o, k _ _ e (.inl rfl), cl, d⟩
  there := fun ⟨o, e, cl, d⟩ => ⟨o, e, fun t => type_ne (by decide) (t.1.symm.trans cl)⟩
theorem own_pair {it t : Addr} {A : Around} {v : Value} {s' : Shared} {es : List Expr} {k : Nat} {p : Pos} (h : s'.heap.IsListIter it t 0 ∨ (∃ k, s'.heap.IsListIter it t k)) (Q' : Unit → Shared → Prop) (E' : Value → Shared → Prop) (q : Q' () s') : wpAny (model pw c.w) A (letOwnedTupleGo (.Tuple es k p) (.ref it) v) Q' E' s' := by
  obtain ⟨o, e, cl, d⟩ : ∃ o, s'.heap.get? it = some o ∧ o.cls = .type "list_iterator" ∧ ∃ k : Nat, o.data = .fields #[.ref t, .int k 0] := by
    rcases h with ⟨o, e, cl, d⟩ | ⟨k, o, e, cl, d⟩
    · exact ⟨o, e, cl, 0, d⟩
    · exact ⟨o, e, cl, k, d⟩
  obtain ⟨k, d⟩ := d
  unfold letOwnedTupleGo
  cases v with
  | ref a =>
    refine wpAny_bind (wpAny_load e ?_)
    rw [cl, d]
    exact wpAny_pure q
  | _ => exact wpAny_pure q
/-- `for .. in range(n)` -/
theorem iter_range {it : Addr} {n : Nat} : Iter c it ((List.range n).map fun k => AV.int (k : Nat)) (fun _ => True) (fun k h => IsRangeIter h it (k : Nat) ((n : Int) - (k : Nat)) 1) where
  next := fun {A E ρ outer s σ k a Q} F _ hit ha q => by
    rw [List.getElem?_map] at ha
    obtain ⟨j, hj, rfl⟩ := Option.map_eq_some_iff.mp ha
    have hk : k < n := by have := (List.getElem?_eq_some_iff.mp hj).1; simpa using this
    rw [List.getElem?_range hk] at hj
    cases hj
    refine wpAny_pyNext_range_item hit (by (first | lia | omega)) fun h' hit' hs => q (.int (k : Nat) s.toks) h' (s.toks + 1) hs ⟨_, rfl⟩ ?_
    have e1 : ((k + 1 : Nat) : Int) = (k : Int) + 1 := by (first | lia | omega)
    have e2 : (n : Int) - ((k + 1 : Nat) : Int) = (n : Int) - (k : Int) - 1 := by (first | lia | omega)
    rw [e2, e1]; exact hit'
  stop := fun {A E ρ outer s σ k Q} F _ hit ha q => by
    rw [List.getElem?_eq_none_iff, List.length_map, List.length_range] at ha
    exact wpAny_pyNext_range_end F.handled hit (by (first | lia | omega)) fun h' he => q h' s.toks he
  keeps := fun e k => k _ _ e (.inl rfl)
  there := fun e => ⟨_, e, fun t => type_ne (by decide) t.1⟩
theorem call_range {n : Int} {ρ : List (Str × AV)} {Q : AV → Store → Prop} (q : ∀ b, σ b = none → Q (.loc b) (σ.set b (.rng n))) : CallJ c ρ (.type "range") [.int n] σ Q X := fun A outer s vals F rs => by
  obtain ⟨v, rfl, t, rfl⟩ := vrels1 rs
  refine call_range_1 ?_
  refine ⟨.loc s.heap.objs.size, _, .alloc (s' := { s with heap := s.heap.push { cls := .type "range", data := .fields #[.int 0 s.toks, .int n t, .int 1 (s.toks + 1)] }, toks := s.toks + 1 + 1 }) F.ok ⟨rfl, rfl, rfl⟩ push_keep (get_end _) (none_at_end F.ok.stays) (cl := .rng n) ⟨_, _, _, Heap.get?_push_size _ rfl⟩ (fun _ _ _ q => nomatch q), rfl, q _ F.ok.fresh⟩
end

/-! # Text WL -/
/-! # The lexer -/
noncomputable def BL : Str := str " \t\x0d\n"
noncomputable def NB : Str := str "abcdefghijklmnopqrstuvwxyzABCDEFGHIJKLMNOPQRSTUVWXYZ_"
noncomputable def NS : Str := str "abcdefghijklmnopqrstuvwxyzABCDEFGHIJKLMNOPQRSTUVWXYZ_0123456789"
noncomputable def FG : Str := str "0123456789"
theorem gv_BL : gval "BLANKS" = some (.str BL 355) := by kernel_rfl
theorem gv_NB : gval "NAME_BEGINS" = some (.str NB 351) := by kernel_rfl
theorem gv_NS : gval "NAME_SIGNS" = some (.str NS 353) := by kernel_rfl
theorem gv_FG : gval "FIGURES" = some (.str FG 347) := by kernel_rfl
noncomputable def chIn (T : Str) (k : Nat) (S : Str) : Bool := !(Builtin.Str.occurrences S (Txt.item T k) 0 S.length 1).isEmpty
structure RunTo (T S : Str) (i j : Nat) : Prop where
  le : i ≤ j
  lt : j ≤ T.length
  run : ∀ k, i ≤ k → k < j → chIn T k S = true
  ends : j < T.length → chIn T j S = false
noncomputable abbrev cut (T : Str) (i j : Nat) : Str := sliceS T (some i) (some j)
structure Blank (T : Str) (i j : Nat) : Prop where
  run : RunTo T BL i j
  no1 : j < T.length → (cut T j (j + 2) == "//") = false
  no2 : j < T.length → (cut T j (j + 2) == "/*") = false
noncomputable def signLike (T : Str) (i : Nat) (s : Str) : Bool := cut T i (i + s.length) == s
inductive Word (T : Str) (i : Nat) : Tk → Nat → Prop
  | name {j : Nat} (b : chIn T i NB = true) (r : RunTo T NS i j) : Word T i ⟨"name", cut T i j, i⟩ j
  | sign {s : Str} {k : Nat} (b : chIn T i NB = false) (f : chIn T i FG = false) (q : (Txt.item T i == "'") = false) (hk : SG[k]? = some s) (no : ∀ m s', m < k → SG[m]? = some s' → signLike T i s' = false) (y : signLike T i s = true) : Word T i ⟨"sign", s, i⟩ (i + s.length)
inductive Lx (T : Str) : Nat → List Tk → Prop
  | nil : Lx T T.length []
  | cons {i j i' : Nat} {t : Tk} {ts : List Tk} (h : i < T.length) (w : Word T i t j) (b : Blank T j i') (r : Lx T i' ts) : Lx T i (t :: ts)
section
variable {c : Fc} {ρ : List (Str × AV)} {P : List (Value × AV)} {σ : Store} {Q : AV → Store → Prop} {X : Store → Prop}
theorem sub_s {slice : Expr} {x : Str} {k : Nat} (hs : Plain slice) (h : k < x.length) (hx : x.length ≤ 2 ^ 24) (q : Q (.str (Txt.item x k)) σ) : SubJ c ρ slice (.str x) (.int k) σ Q := sub_str hs (fits_of (by (first | lia | omega)) (by (first | lia | omega))) (by (first | lia | omega)) (by (first | lia | omega)) q
theorem run_end_ok {T S : Str} {i j : Nat} (hn : 1 ≤ c.n) (hT : T.length ≤ 2 ^ 24) (r : RunTo T S i j) (q : Q (.int j) σ) : CallJ c ρ (.ref 69) [.str T, .int i, .str S] σ Q X := by
  refine call_def0 c_run_end b_run_end hn (ρ₀ := [("text", .str T), ("at", .int i), ("signs", .str S)]) ⟨rfl, rfl⟩ fun L => ?_
  have hlt := r.lt
  conv => arg 3; whnf
  refine S_cons (S_while (fun n ρ' σ' => ∃ k : Nat, ρ' = Lv [("text", .str T), ("at", .int k), ("signs", .str S)] ∧ σ' = σ ∧ i ≤ k ∧ k ≤ j ∧ n = j - k) (fun n ρ' σ' hI => ?_) (j - i) ⟨i, rfl, rfl, Nat.le_refl _, r.le, rfl⟩)
  obtain ⟨k, rfl, rfl, hik, hkj, rfl⟩ := hI
  repeat k_memK
  refine call_lenS (by (first | lia | omega)) ?_
  refine cmp_I (b := decide ((k : Int) < T.length)) rfl ?_
  by_cases hk : k < T.length
  · rw [if_pos (decide_eq_true (by (first | lia | omega)))]
    repeat k_memK
    refine sub_s (fun _ _ => ⟨_, rfl⟩) hk hT ?_
    repeat k_memK
    refine cmp_inS ?_
    by_cases hkj' : k < j
    · have e := r.run k hik hkj'
      unfold chIn at e
      rw [e, if_pos rfl]
      refine All_and_nil ?_
      rw [if_pos rfl]
      refine S_cons (S_aug rfl (v := .int k) rfl ?_)
      repeat k_memK
      intro y z P hy hz
      refine J.still (a' := AV.int ((k : Int) + 1)) (fun A outer s F Q' _ h => ?_) ?_
      · obtain ⟨t, rfl⟩ := F.pend _ hy
        obtain ⟨t2, rfl⟩ := F.pend _ hz
        exact iadd_int (h _ _ ⟨_, rfl⟩)
      · refine S_nil ?_
        exact ⟨j - (k + 1), by (first | lia | omega), k + 1, rfl, rfl, by (first | lia | omega), by (first | lia | omega), rfl⟩
    · have e : k = j := by (first | lia | omega)
      subst e
      have e := r.ends hk
      unfold chIn at e
      rw [e, if_neg (by decide), if_neg (by decide)]
      repeat k_memK
      exact retq q
  · rw [if_neg (by simp; (first | lia | omega)), if_neg (by decide)]
    repeat k_memK
    have e : k = j := by (first | lia | omega)
    subst e
    exact retq q
theorem blank_end_ok {T : Str} {i j : Nat} (hn : 2 ≤ c.n) (hT : T.length ≤ 2 ^ 24) (b : Blank T i j) (q : Q (.int j) σ) : CallJ c ρ (.ref 83) [.str T, .int i] σ Q X := by
  refine call_def0 c_blank_end b_blank_end (by (first | lia | omega)) (ρ₀ := [("text", .str T), ("at", .int i)]) ⟨rfl, rfl⟩ fun L => ?_
  have hlt := b.run.lt
  conv => arg 3; whnf
  refine S_cons (S_while (fun n ρ' σ' => ∃ k : Nat, ρ' = Lv [("text", .str T), ("at", .int k)] ∧ σ' = σ ∧ RunTo T BL k j ∧ n = j - k) (fun n ρ' σ' hI => ?_) (j - i) ⟨i, rfl, rfl, b.run, rfl⟩)
  obtain ⟨k, rfl, rfl, r, rfl⟩ := hI
  have hkj := r.le
  repeat k_memK
  refine call_lenS (by (first | lia | omega)) ?_
  refine cmp_I (b := decide ((k : Int) < T.length)) rfl ?_
  by_cases hk : k < T.length
  · rw [if_pos (decide_eq_true (by (first | lia | omega)))]
    repeat k_memK
    refine sub_s (fun _ _ => ⟨_, rfl⟩) hk hT ?_
    repeat k_memK
    refine E_gl (v := .str BL) rfl gv_BL (fun _ _ _ => ⟨_, rfl⟩) ?_
    refine cmp_inS ?_
    by_cases hkj' : k < j
    · have e := r.run k (Nat.le_refl _) hkj'
      unfold chIn at e
      rw [e, if_pos rfl]
      repeat k_memK
      refine E_fn rfl g_run_end rfl ?_
      repeat k_memK
      refine E_gl (v := .str BL) rfl gv_BL (fun _ _ _ => ⟨_, rfl⟩) ?_
      repeat k_memK
      refine run_end_ok (calleeN (by (first | lia | omega))) hT r ?_
      repeat refine S_nil ?_
      exact ⟨j - j, by (first | lia | omega), j, rfl, rfl, ⟨Nat.le_refl _, r.lt, fun m h1 h2 => by (first | lia | omega), r.ends⟩, rfl⟩
    · have e : k = j := by (first | lia | omega)
      subst e
      have e := r.ends hk
      unfold chIn at e
      rw [e, if_neg (by decide)]
      repeat k_memK
      refine ⟨_, rfl, ?_⟩
      repeat k_memK
      refine bin_addI ?_
      have e1 : (sliceS T (some (k : Int)) (some ((k : Int) + 2)) == "//") = false := b.no1 hk
      have e2 : (sliceS T (some (k : Int)) (some ((k : Int) + 2)) == "/*") = false := b.no2 hk
      refine ⟨_, rfl, T, rfl, by rw [sizeLine_eq]; (first | lia | omega), ?_⟩
      repeat k_memK
      rw [e1, if_neg (by decide)]
      repeat k_memK
      refine ⟨_, rfl, ?_⟩
      repeat k_memK
      refine bin_addI ?_
      refine ⟨_, rfl, T, rfl, by rw [sizeLine_eq]; (first | lia | omega), ?_⟩
      repeat k_memK
      rw [e2, if_neg (by decide)]
      repeat k_memK
      exact retq q
  · rw [if_neg (by simp; (first | lia | omega))]
    repeat k_memK
    have e : k = j := by (first | lia | omega)
    subst e
    exact retq q
theorem read_sign_ok {T : Str} {i k : Nat} {w : Str} (hn : 1 ≤ c.n) (hT : T.length ≤ 2 ^ 24) (hi : i ≤ T.length) (hk : SG[k]? = some w) (no : ∀ m s', m < k → SG[m]? = some s' → signLike T i s' = false) (y : signLike T i w = true)
    (q : Q (.tup [Tk.av ⟨"sign", w, i⟩, .int ((i + w.length : Nat) : Int)]) σ) : CallJ c ρ (.ref 111) [.str T, .int i] σ Q X := by
  have hkl := (List.getElem?_eq_some_iff.mp hk).1
  have sgl : ∀ (m : Nat) (s' : Str), SG[m]? = some s' → s'.length ≤ 3 := fun m s' e => by
    have : ∀ x ∈ SG, x.length ≤ 3 := by decide
    exact this _ (List.mem_of_getElem? e)
  refine call_def0 c_read_sign b_read_sign hn (ρ₀ := [("text", .str T), ("at", .int i)]) ⟨rfl, rfl⟩ fun L => ?_
  conv => arg 3; whnf
  refine S_cons (S_forT (as := SG.map .str) rfl (fun m ρ' σ' => m ≤ k ∧ σ' = σ ∧ SubL ρ' (Lv [("text", .str T), ("at", .int i)])) ?_ (fun m a ρ' σ' ha hI => ?_) (fun ρ' σ' hI => ?_) (fun _ => rfl))
  · exact E_gl (v := .tup (SG.map .str)) rfl g_SIGNS t_SG ⟨rfl, Nat.zero_le _, rfl, rfl, rfl, trivial⟩
  · obtain ⟨hm, rfl, hs⟩ := hI
    rw [List.getElem?_map] at ha
    obtain ⟨s', hs', rfl⟩ := Option.map_eq_some_iff.mp ha
    refine ⟨_, hs, ?_⟩
    have h3 := sgl m s' hs'
    repeat k_memK
    refine ⟨_, rfl, ?_⟩
    repeat k_memK
    refine call_lenS (by (first | lia | omega)) ?_
    repeat k_memK
    refine bin_addI ?_
    refine ⟨_, rfl, T, rfl, by rw [sizeLine_eq]; (first | lia | omega), ?_⟩
    repeat k_memK
    by_cases hmk : m < k
    · have e : (sliceS T (some (i : Int)) (some ((i : Int) + s'.length)) == s') = false := no m s' hmk hs'
      rw [e, if_neg (by decide)]
      repeat refine S_nil ?_
      exact ⟨by (first | lia | omega), rfl, rfl, rfl, trivial⟩
    · have e : m = k := by (first | lia | omega)
      subst e
      rw [hk] at hs'
      cases hs'
      have e : (sliceS T (some (i : Int)) (some ((i : Int) + w.length)) == w) = true := y
      rw [e, if_pos rfl]
      repeat k_memK
      refine call_lenS (by (first | lia | omega)) ?_
      repeat k_memK
      refine bin_addI ?_
      repeat k_memK
      exact retq q
  · obtain ⟨hm, _⟩ := hI
    rw [List.length_map] at hm
    exact absurd hkl (by (first | lia | omega))
theorem read_word_ok {T : Str} {i j : Nat} {t : Tk} (hn : 3 ≤ c.n) (hT : T.length ≤ 2 ^ 24) (hi : i < T.length) (w : Word T i t j) (q : Q (.tup [t.av, .int j]) σ) : CallJ c ρ (.ref 118) [.str T, .int i] σ Q X := by
  refine call_def0 c_read_word b_read_word (by (first | lia | omega)) (ρ₀ := [("text", .str T), ("at", .int i)]) ⟨rfl, rfl⟩ fun L => ?_
  conv => arg 3; whnf
  repeat k_memK
  refine sub_s (fun _ _ => ⟨_, rfl⟩) hi hT ?_
  repeat k_memK
  refine E_gl (v := .str NB) rfl gv_NB (fun _ _ _ => ⟨_, rfl⟩) ?_
  refine cmp_inS ?_
  cases w with
  | name b r =>
    unfold chIn at b
    rw [b, if_pos rfl]
    repeat k_memK
    refine E_fn rfl g_run_end rfl ?_
    repeat k_memK
    refine E_gl (v := .str NS) rfl gv_NS (fun _ _ _ => ⟨_, rfl⟩) ?_
    repeat k_memK
    refine run_end_ok (calleeN (by (first | lia | omega))) hT r ?_
    repeat k_memK
    refine ⟨_, rfl, ?_⟩
    repeat k_memK
    refine ⟨_, rfl, T, rfl, by rw [sizeLine_eq]; (first | lia | omega), ?_⟩
    repeat k_memK
    exact retq q
  | @sign s k b f qq hk no y =>
    unfold chIn at b f
    rw [b, if_neg (by decide)]
    refine S_nil ?_
    repeat k_memK
    refine sub_s (fun _ _ => ⟨_, rfl⟩) hi hT ?_
    repeat k_memK
    refine E_gl (v := .str FG) rfl gv_FG (fun _ _ _ => ⟨_, rfl⟩) ?_
    refine cmp_inS ?_
    rw [f, if_neg (by decide)]
    refine S_nil ?_
    repeat k_memK
    refine sub_s (fun _ _ => ⟨_, rfl⟩) hi hT ?_
    repeat k_memK
    rw [qq, if_neg (by decide)]
    refine S_nil ?_
    repeat k_memK
    refine E_fn rfl g_read_sign rfl ?_
    repeat k_memK
    exact read_sign_ok (calleeN (by (first | lia | omega))) hT (by (first | lia | omega)) hk no y (retq q)
end

/-! # Text WM -/
section
variable {c : Fc} {ρ : List (Str × AV)} {P : List (Value × AV)} {σ : Store} {Q : AV → Store → Prop} {X : Store → Prop}
theorem J.sub {ρ₀ : List (Str × AV)} {α β : Type} {R : Heap → α → β → Prop} {t : Sem α} {Q : β → Store → Prop} (h : J c ρ₀ P R t σ Q X) (k : SubL ρ ρ₀) : J c ρ P R t σ Q X := fun A outer s F => h A outer s (F.sub k)
theorem word_rows_ok {T : Str} {i0 : Nat} {ts : List Tk} (hn : 4 ≤ c.n) (hT : T.length ≤ 2 ^ 23) (b0 : Blank T 0 i0) (lx : Lx T i0 ts) (hl : ts.length ≤ 2 ^ 23) (q : ∀ F, σ F = none → Q (.loc F) (σ.set F (.list ((ts ++ [Tk.mk "end" "" T.length]).map Tk.av)))) : CallJ c ρ (.ref 125) [.str T] σ Q X := by
  refine call_def0 c_word_rows b_word_rows (by (first | lia | omega)) (ρ₀ := [("text", .str T)]) ⟨rfl, rfl⟩ fun L => ?_
  conv => arg 3; whnf
  repeat k_memK
  intro F hF
  repeat k_memK
  refine E_fn rfl g_blank_end rfl ?_
  repeat k_memK
  refine blank_end_ok (i := 0) (calleeN (by (first | lia | omega))) (by (first | lia | omega)) b0 ?_
  try refine S_cons ?_
  refine S_while (fun n ρ' σ' => ∃ pre i rest, SubL ρ' (Lv [("text", .str T), ("found", .loc F), ("at", .int (i : Nat))]) ∧ σ' = σ.set F (.list (pre.map Tk.av)) ∧ Lx T i rest ∧ pre ++ rest = ts ∧ n = rest.length) (fun n ρ' σ' hI => ?_) ts.length
    ⟨[], i0, ts, ⟨rfl, rfl, rfl, trivial⟩, rfl, lx, rfl, rfl⟩
  obtain ⟨pre, i, rest, hs, rfl, lx', hall, rfl⟩ := hI
  have hF1 : (σ.set F (.list (pre.map Tk.av))) F = some (.list (pre.map Tk.av)) := Store.set_same
  have hpl : pre.length ≤ ts.length := by rw [← hall, List.length_append]; (first | lia | omega)
  refine J.sub (ρ₀ := Lv [("text", .str T), ("found", .loc F), ("at", .int (i : Nat))]) ?_ hs
  show Tst _ _ _ _ _ _ _
  repeat k_memK
  refine call_lenS (by (first | lia | omega)) ?_
  refine cmp_I (b := decide ((i : Int) < T.length)) rfl ?_
  cases lx' with
  | nil =>
    rw [if_neg (by simp)]
    refine JT.sub (ρ₀ := Lv [("text", .str T), ("found", .loc F), ("at", .int (T.length : Nat))]) ?_ hs
    show JS _ _ _ _ _ _
    repeat k_memK
    refine ⟨F, _, rfl, hF1, ?_⟩
    repeat k_memK
    refine call_lenS (by (first | lia | omega)) ?_
    repeat k_memK
    refine ⟨_, hF1, by rw [List.length_map, sizeLine_eq]; (first | lia | omega), ?_⟩
    repeat k_memK
    rw [List.append_nil] at hall
    subst hall
    rw [tset]
    have := q F hF
    rw [List.map_append] at this
    exact retq this
  | @cons _ j i' t ts' h w b r =>
    rw [if_pos (decide_eq_true (by (first | lia | omega)))]
    refine JT.sub (ρ₀ := Lv [("text", .str T), ("found", .loc F), ("at", .int (i : Nat))]) ?_ hs
    show JS _ _ _ _ _ _
    try refine S_cons ?_
    refine S_pair rfl rfl ?_ rfl rfl
    refine E_fn rfl g_read_word rfl ?_
    repeat k_memK
    refine read_word_ok (calleeN (by (first | lia | omega))) (by (first | lia | omega)) h w ?_
    refine ⟨_, _, rfl, ?_⟩
    repeat k_memK
    refine ⟨F, _, rfl, hF1, ?_⟩
    repeat k_memK
    refine ⟨_, hF1, by rw [List.length_map, sizeLine_eq]; (first | lia | omega), ?_⟩
    repeat k_memK
    refine E_fn rfl g_blank_end rfl ?_
    repeat k_memK
    refine blank_end_ok (calleeN (by (first | lia | omega))) (by (first | lia | omega)) b ?_
    refine S_nil ?_
    refine ⟨ts'.length, by simp, pre ++ [t], i', ts', ⟨rfl, rfl, rfl, trivial⟩, ?_, r, by rw [List.append_assoc]; exact hall, rfl⟩
    rw [tset, List.map_append]; rfl
end

/-! # Text WN -/
section
variable {c : Fc} {ρ : List (Str × AV)} {P : List (Value × AV)} {σ : Store} {X : Store → Prop}
theorem S_setA {o value : Expr} {attr : Str} {tpos pos : Pos} {Q : Fl → List (Str × AV) → Store → Prop}
    (h : Ev c ρ [] value σ (fun b σ₁ => Ev c ρ [] o σ₁ (fun a σ₂ => ∃ x d es, a = .loc x ∧ OwnAttr c.w.params attr ∧ σ₂ x = some (.inst 193 d es) ∧ es.length ≤ 100 ∧ Q .next ρ (σ₂.set x (.inst 193 d (upd es attr b)))) X) X)
    (hs : swapsWith value (some (.Attribute o attr tpos)) pos.line c.env = pure false) : J1 c ρ (.Assign [.Attribute o attr tpos] value pos) σ Q X := fun A outer s F =>
  plainObj_wpAny_Assign_Attribute (h.go F (fun v b s₁ σ₁ G r k => by
    have F₁ := F.stepL G
    have F₁' : InFr c ρ [(v, b)] A outer s₁ σ₁ := { F₁ with pend := fun p hp => by cases List.mem_singleton.mp hp; exact r }
    refine (k.weaken (P' := [(v, b)]) fun p hp => nomatch hp).go F₁' (fun ov a s₂ σ₂ G₂ r₂ ⟨x, d, es, e, hO, sx, hlen, q⟩ => ?_) fun e s' x => SExc.up G.up F₁ e s' (SExc.of x)
    subst e
    obtain rfl : ov = .ref x := r₂
    have F₂ := F₁'.step G₂ (P' := [(v, b)]) fun p hp => .inl hp
    have GG := G.trans G₂ noneK
    exact set_words F₂ hO sx hlen (F₂.pend _ (.head _)) fun s₃ G₃ => ⟨.next, ρ, _, (GG.trans G₃ noneK).up, F₂.bare.stepL G₃, trivial, q⟩) fun _ _ x => SExc.of x) hs
theorem init_code {x d F : Addr} {rows : List AV} {Q : AV → Store → Prop} (hn : 1 ≤ c.n) (sx : σ x = some (.inst 193 d [])) (sF : σ F = some (.list rows)) (hl : rows.length ≤ sizeLine)
    (q : ∀ L, σ L = none → Q .none ((σ.set L (.list rows)).set x (.inst 193 d [("rows", .loc L), ("at", .int 0)]))) : CodeJ c ρ (.ref 146) [.loc x, .loc F] σ Q X := by
  refine call_code (ps := ["self", "rows"]) (ex := []) (loc := ["self", "rows"]) (glo := ["list"]) c_w_init b_w_init hn rfl (fun h x av e => by cases e) fun L => ?_
  show JS _ (Lv [("self", .loc x), ("rows", .loc F)]) _ _ _ _
  conv => arg 3; whnf
  try refine S_cons ?_
  refine S_setA ?_ rfl
  repeat k_memK
  refine call_listL sF hl fun M hM => ?_
  repeat k_memK
  have nx : M ≠ x := fun e => by rw [e, sx] at hM; cases hM
  refine ⟨x, d, [], rfl, own_rows _, (Store.set_ne (Ne.symm nx)).trans sx, by decide, ?_⟩
  try refine S_cons ?_
  refine S_setA ?_ rfl
  repeat k_memK
  refine ⟨x, d, _, rfl, own_at _, Store.set_same, (by show 1 ≤ 100; decide), ?_⟩
  refine S_nil ?_
  rw [tset]
  exact nextq (q M hM)
theorem make_words {A : Around} {outer : List Env} {h : Heap} {g : Array GenState} {dr : Drawn} {t : Nat} {os : OsState} {v : Value} {R : Result → Shared → Prop} (F0 : InFr c ρ [] A outer ⟨h, g, dr, t, os⟩ σ) (hn : 2 ≤ c.n)
    (q : ∀ A' c', c' = { c with n := c.n - 1 } → InFr c' ρ [] A' outer ⟨(h.push emptyDict).push (instObj 193 h.objs.size), g, dr, t, os⟩ ((σ.set h.objs.size (.own (h.objs.size + 1))).set (h.objs.size + 1) (.inst 193 h.objs.size [])) →
      Good c.w c.H none ⟨h, g, dr, t, os⟩ σ ⟨(h.push emptyDict).push (instObj 193 h.objs.size), g, dr, t, os⟩ ((σ.set h.objs.size (.own (h.objs.size + 1))).set (h.objs.size + 1) (.inst 193 h.objs.size [])) →
      codeAny (model pw c.w) A' (.call (.ref 146) ⟨[.ref (h.objs.size + 1), v], []⟩) (InitBack (h.objs.size + 1) R) ⟨(h.push emptyDict).push (instObj 193 h.objs.size), g, dr, t, os⟩) :
    codeAny (model pw c.w) A (.call (.ref 193) ⟨[v], []⟩) R ⟨h, g, dr, t, os⟩ := by
  have K : (KO c.w.params).In h := F0.K
  refine make_core (makes_of K (by kernel_rfl)) (looks_findIn K (r := some (.ref 146)) (by kernel_rfl)) (fun self => bind_fn K self (by kernel_rfl)) (.inl rfl) ?_
  have e1 : (h.push emptyDict).objs.size = h.objs.size + 1 := Heap.size_push ..
  have gd : ((h.push emptyDict).push (instObj 193 h.objs.size)).get? h.objs.size = some emptyDict := Heap.get?_push_of_some _ (Heap.get?_push_size _ rfl)
  have gx : ((h.push emptyDict).push (instObj 193 h.objs.size)).get? (h.objs.size + 1) = some (instObj 193 h.objs.size) := by
    have := Heap.get?_push_size (h := h.push emptyDict) (o := instObj 193 h.objs.size) rfl
    rw [e1] at this; exact this
  have G1 : Good c.w c.H none ⟨h, g, dr, t, os⟩ σ ⟨h.push emptyDict, g, dr, t, os⟩ (σ.set h.objs.size (.own (h.objs.size + 1))) :=
    Good.alloc (s' := ⟨h.push emptyDict, g, dr, t, os⟩) (a := h.objs.size) (cl := .own (h.objs.size + 1)) F0.ok ⟨rfl, rfl, rfl⟩ push_keep (get_end _) (none_at_end F0.ok.stays) ⟨_, _, _, Heap.get?_push_size _ rfl, rfl⟩ (fun _ _ _ q => nomatch q)
  have G2 : Good c.w c.H none ⟨h.push emptyDict, g, dr, t, os⟩ (σ.set h.objs.size (.own (h.objs.size + 1))) ⟨(h.push emptyDict).push (instObj 193 h.objs.size), g, dr, t, os⟩ ((σ.set h.objs.size (.own (h.objs.size + 1))).set (h.objs.size + 1) (.inst 193 h.objs.size [])) :=
    Good.alloc (s := ⟨h.push emptyDict, g, dr, t, os⟩) (s' := ⟨(h.push emptyDict).push (instObj 193 h.objs.size), g, dr, t, os⟩) (a := h.objs.size + 1) (cl := .inst 193 h.objs.size []) G1.ok ⟨rfl, rfl, rfl⟩ push_keep (by rw [← e1]; exact get_end _) (by rw [← e1]; exact none_at_end G1.ok.stays)
      ⟨fun _ => none, _, gx, rfl, rfl, ⟨_, gx, rfl, (fun c q => nomatch q), .inr ⟨h.objs.size, rfl, Nat.ne_of_lt (Nat.lt_succ_self _), Heap.Ns1.of_empty ⟨_, #[], _, gd, rfl, (fun e he => absurd he (by simp)), fun _ => rfl⟩⟩⟩, fun _ => rfl⟩
      (fun C d es q => by cases q; exact Store.set_same)
  have G := G1.trans G2 noneK
  have F2 := F0.stepL G
  refine q _ _ rfl ⟨⟨F2.base.says, F2.base.g, F2.base.b, F2.base.bi, F2.base.lim, F2.base.free⟩, F2.handled, ?_, ?_, ?_, F2.kind, F2.frame, F2.globals, F2.builtins, F2.stack, F2.apart, F2.ns, F2.known, F2.locs, F2.glos, F2.ok, F2.pend⟩ G
  · have := F2.depth
    have hw : (Code.builtin "type.__call__" ⟨.ref 193 :: [v], []⟩).weight = 1 := by kernel_rfl
    show A.depth + (Code.builtin "type.__call__" ⟨.ref 193 :: [v], []⟩).weight + 2 * (c.n - 1) + 2 ≤ 1000
    rw [hw]; (first | lia | omega)
  · have := F2.units
    have hw : (Code.builtin "type.__call__" ⟨.ref 193 :: [v], []⟩).cUnits = 1 := by kernel_rfl
    show A.units + (Code.builtin "type.__call__" ⟨.ref 193 :: [v], []⟩).cUnits + 20 * (c.n - 1) + 200 ≤ 9900
    rw [hw]; (first | lia | omega)
  · have := F2.frames
    have hw : (Code.builtin "type.__call__" ⟨.ref 193 :: [v], []⟩).envs = [] := by kernel_rfl
    show pushEnvs (Code.builtin "type.__call__" ⟨.ref 193 :: [v], []⟩).envs A.frames = _
    rw [hw]; exact this
theorem call_Words {F : Addr} {rows : List AV} {Q : AV → Store → Prop} (hn : 2 ≤ c.n) (sF : σ F = some (.list rows)) (hl : rows.length ≤ sizeLine)
    (q : ∀ x d L σ', σ x = none → σ d = none → σ L = none → σ' x = some (.inst 193 d [("rows", .loc L), ("at", .int 0)]) → σ' d = some (.own x) → σ' L = some (.list rows) → (∀ a cl, σ a = some cl → σ' a = some cl) → Q (.loc x) σ') : CallJ c ρ (.ref 193) [.loc F] σ Q X := fun A outer s vals F0 rs => by
  obtain ⟨v, rfl, r⟩ := vrels1 rs
  obtain rfl : v = .ref F := r
  obtain ⟨h, g, dr, t, os⟩ := s
  refine wpAny_call (make_words F0 hn fun A' c' ec F2 G => ?_)
  subst ec
  have nd : σ h.objs.size = none := F0.ok.fresh
  have nx : σ (h.objs.size + 1) = none := by
    cases e : σ (h.objs.size + 1) with
    | none => rfl
    | some cl =>
      obtain ⟨o, eo⟩ := (F0.ok.cells _ _ e).1.there
      have : h.objs.size + 1 < h.objs.size := Heap.lt_size eo
      (first | lia | omega)
  have kp : ∀ a cl, σ a = some cl → ((σ.set h.objs.size (.own (h.objs.size + 1))).set (h.objs.size + 1) (.inst 193 h.objs.size [])) a = some cl := fun a cl e =>
    (Store.set_ne fun q => by rw [q, nx] at e; cases e).trans ((Store.set_ne fun q => by rw [q, nd] at e; cases e).trans e)
  refine codeAny_mono (init_code (c := { c with n := c.n - 1 }) (ρ := ρ) (x := h.objs.size + 1) (d := h.objs.size) (Q := fun b σ' => b = .none ∧ Q (.loc (h.objs.size + 1)) σ') (X := X) (by show 1 ≤ c.n - 1; (first | lia | omega)) Store.set_same (kp _ _ sF) hl (fun L hL => ⟨rfl, ?_⟩) A' outer _ [.ref (h.objs.size + 1), .ref F] F2 ⟨_, _, rfl, rfl, _, _, rfl, rfl, rfl⟩) fun r s' hr => ?_
  · have nL : L ≠ h.objs.size + 1 := fun e => by rw [e, Store.set_same] at hL; cases hL
    have nLd : L ≠ h.objs.size := fun e => by rw [e, Store.set_ne (Nat.ne_of_lt (Nat.lt_succ_self _)), Store.set_same] at hL; cases hL
    refine q (h.objs.size + 1) h.objs.size L _ nx nd ?_ Store.set_same ?_ ?_ ?_
    · cases e : σ L with
      | none => rfl
      | some cl => rw [kp _ _ e] at hL; cases hL
    · rw [Store.set_ne (Nat.ne_of_lt (Nat.lt_succ_self _)), Store.set_ne (Ne.symm nLd), Store.set_ne (Nat.ne_of_lt (Nat.lt_succ_self _))]; exact Store.set_same
    · rw [Store.set_ne nL]; exact Store.set_same
    · intro a cl e
      have h1 : a ≠ h.objs.size + 1 := fun q => by rw [q, nx] at e; cases e
      have h2 : a ≠ L := fun q => by rw [← q, kp _ _ e] at hL; cases hL
      exact (Store.set_ne h1).trans ((Store.set_ne h2).trans (kp a cl e))
  · rcases r with e | (w | _ | _ | _)
    · exact ExcPost.up G _ _ hr
    · exact hr.elim
    · exact hr.elim
    · exact hr.elim
    · obtain ⟨b, σ', G', r', e, q'⟩ := hr
      subst e
      exact ⟨r', .loc (h.objs.size + 1), σ', G.trans G' noneK, rfl, q'⟩
/-- `read_words` -/
theorem read_words_ok {T : Str} {i0 : Nat} {ts : List Tk} {Q : AV → Store → Prop} (hn : 6 ≤ c.n) (hT : T.length ≤ 2 ^ 23) (b0 : Blank T 0 i0) (lx : Lx T i0 ts) (hl : ts.length ≤ 2 ^ 23)
    (q : ∀ W σ', W.ts = ts ++ [Tk.mk "end" "" T.length] → WAt σ' W 0 → σ W.x = none → (∀ a cl, σ a = some cl → σ' a = some cl) → Q (.loc W.x) σ') : CallJ c ρ (.ref 132) [.str T] σ Q X := by
  refine call_def0 c_read_words b_read_words (by (first | lia | omega)) (ρ₀ := [("text", .str T)]) ⟨rfl, rfl⟩ fun L => ?_
  conv => arg 3; whnf
  repeat k_memK
  refine E_call (f := 193) (E_gf rfl g_Words ⟨rfl, ?_⟩) (by kernel_rfl)
  repeat k_memK
  refine E_fn rfl g_word_rows rfl ?_
  repeat k_memK
  refine word_rows_ok (calleeN (by (first | lia | omega))) hT b0 lx hl fun F hF => ?_
  repeat k_memK
  have keepF : ∀ {cl' : Cell} a cl, σ a = some cl → (σ.set F cl') a = some cl := fun {cl'} a cl e => (Store.set_ne fun q => by rw [q, hF] at e; cases e).trans e
  refine call_Words (calleeN (by (first | lia | omega))) Store.set_same (by rw [List.length_map, List.length_append, sizeLine_eq]; simp; (first | lia | omega)) fun x d L' σ' hx hd hL' e1 e2 e3 kp => ?_
  refine retq (q ⟨x, d, L', ts ++ [Tk.mk "end" "" T.length]⟩ σ' rfl ⟨e1, e3, e2, by simp, by simp; (first | lia | omega)⟩ ?_ fun a cl e => kp a cl (keepF a cl e))
  cases e : σ x with
  | none => rfl
  | some cl => rw [keepF x cl e] at hx; cases hx
end

/-! # Text WT -/
/-! # Items are stored; the drawn numbers -/
section
variable {prog : Program} {w : World} {A : Around} {E : Value → Shared → Prop} {s : Shared}
theorem setItem_plain' {l : Addr} {items : Array Value} {k : Int} {t : Tok} {v : Value} {Q : Unit → Shared → Prop} (hl : PlainL s.heap l items) (h0 : 0 ≤ k) (hfit : k < 2 ^ 63) (hn : k < items.size)
    (hQ : ∀ h', PlainL h' l (items.setIfInBounds k.toNat v) → Heap.SameBut l s.heap h' → Q () { s with heap := h' }) : wpAny (model prog w) A (setItem (.ref l) (.int k t) v) Q E s := by
  obtain ⟨o, ne, ho, hc, hdn, hd⟩ := id hl
  unfold setItem
  try with_reducible refine wpAny_holding ?_
  first | refine wpAny_bind (wpAny_pure ?_) | skip
  refine wpAny_bind (wpAny_sequenceKey hl.isList.typeIs (by decide) ?_)
  refine wpAny_bind (wpAny_callSpecial?_slot (name := Str.ofString "__setitem__") hl.isList.typeIs slot_list_setitem
    (wpAny_call_entry slot_list_setitem hl.isList.typeIs entry_list_setitem ?_ (args_list_setitem _ _ _)))
  show wpAny _ _ (Builtin.List.listSubscript? (.int k t) >>= _) _ _ s
  refine wpAny_bind (wpAny_listSubscript_int (fitsIndex_of h0 hfit) ?_)
  clear hfit
  obtain ⟨j, rfl⟩ := Int.eq_ofNat_of_zero_le h0
  have hj : j < items.size := by (first | lia | omega)
  have hx' : items[j]? = some items[j] := Array.getElem?_eq_getElem hj
  show wpAny _ _ ((seqItemAt l j >>= fun r => pure (r.map (j, ·))) >>= _) _ _ s
  refine wpAny_bind (wpAny_bind (wpAny_seqItemAt ho hd (wpAny_pure ?_)))
  rw [hx']
  show wpAny _ _ (setSeqItemAt l j v >>= _) _ _ s
  obtain ⟨n', hd'⟩ := Obj.data_mapSeq hd (·.setIfInBounds j v)
  have hfin : PlainL (s.heap.update l (Obj.mapSeq (·.setIfInBounds j v))) l (items.setIfInBounds j v) := by
    refine ⟨_, n', Heap.get?_update_self _ ho (Obj.isFreed_of_seq hd'), (Obj.cls_mapSeq ..).trans hc, ?_, hd'⟩
    obtain ⟨c, d, dt, sl⟩ := o
    subst hd
    exact hdn
  refine wpAny_bind (wpAny_setSeqItemAt ho hd ?_)
  first
    | exact wpAny_bind (wpAny_pure (wpAny_pure ⟨.none, rfl, wpAny_pure (hQ _ hfin (Heap.SameBut.update ..))⟩))
    | exact wpAny_pure ⟨.none, rfl, wpAny_pure (hQ _ hfin (Heap.SameBut.update ..))⟩
theorem setItem_plain {l : Addr} {items : Array Value} {j : Nat} {t : Tok} {v : Value} {Q : Unit → Shared → Prop} (hl : PlainL s.heap l items) (hj : j < items.size) (hfit : (j : Int) < 2 ^ 63)
    (hQ : ∀ h', PlainL h' l (items.setIfInBounds j v) → Heap.SameBut l s.heap h' → Q () { s with heap := h' }) : wpAny (model prog w) A (setItem (.ref l) (.int j t) v) Q E s :=
  setItem_plain' hl (by (first | lia | omega)) hfit (by (first | lia | omega)) fun h' pl hs => hQ h' (by rw [Int.toNat_natCast] at pl; exact pl) hs
end
theorem VRels.set {h : Heap} {v : Value} {a : AV} (r : VRel h v a) : ∀ {vs : List Value} {as : List AV} (j : Nat), VRels h vs as → VRels h (vs.set j v) (as.set j a)
  | _, [], j, e => by cases e; rfl
  | _, b :: as, 0, ⟨x, xs, e, _, rs⟩ => by subst e; exact ⟨v, xs, rfl, r, rs⟩
  | _, b :: as, j + 1, ⟨x, xs, e, r', rs⟩ => by subst e; exact ⟨x, xs.set j v, rfl, r', rs.set r j⟩
section
variable {c : Fc} {ρ : List (Str × AV)} {P : List (Value × AV)} {σ : Store} {X : Store → Prop}
/-- `x[i] = e`, `x` a list -/
theorem S_setI {o i value : Expr} {tpos pos : Pos} {Q : Fl → List (Str × AV) → Store → Prop}
    (h : Ev c ρ [] value σ (fun b σ₁ => Ev c ρ [] o σ₁ (fun a σ₂ => Ev c ρ [] i σ₂ (fun k σ₃ => ∃ D as, ∃ j : Nat, a = .loc D ∧ k = .int j ∧ σ₃ D = some (.list as) ∧ j < as.length ∧ as.length ≤ 2 ^ 40 ∧ Q .next ρ (σ₃.set D (.list (as.set j b)))) X) X) X)
    (hs : swapsWith value (some (.Subscript o i tpos)) pos.line c.env = pure false) : J1 c ρ (.Assign [.Subscript o i tpos] value pos) σ Q X := fun A outer s F =>
  wpAny_Assign_Subscript (h.go F (fun v b s₁ σ₁ G r k => by
    have F₁ := F.stepL G
    have F₁' : InFr c ρ [(v, b)] A outer s₁ σ₁ := { F₁ with pend := fun p hp => by cases List.mem_singleton.mp hp; exact r }
    refine (k.weaken (P' := [(v, b)]) fun p hp => nomatch hp).go F₁' (fun ov a s₂ σ₂ G₂ r₂ k₂ => ?_) fun e s' x => SExc.up G.up F₁ e s' (SExc.of x)
    have F₂ : InFr c ρ [(v, b), (ov, a)] A outer s₂ σ₂ := F₁'.step G₂ fun p hp => by
      rcases List.mem_cons.mp hp with rfl | hp
      · exact .inl (.head _)
      · cases List.mem_singleton.mp hp; exact .inr r₂
    have GG := G.trans G₂ noneK
    refine (k₂.weaken (P' := [(v, b), (ov, a)]) fun p hp => nomatch hp).go F₂ (fun iv kk s₃ σ₃ G₃ r₃ ⟨D, as, j, e1, e2, sD, hj, hl, q⟩ => ?_) fun e s' x => SExc.up GG.up F₂.bare e s' (SExc.of x)
    have F₃ := F₂.step G₃ (P' := [(v, b), (ov, a)]) fun p hp => .inl hp
    have G3 := GG.trans G₃ noneK
    subst e1 e2
    obtain rfl : ov = .ref D := F₃.pend _ (.tail _ (.head _))
    obtain ⟨t, rfl⟩ := r₃
    obtain ⟨oo, n, vs, g, cl, dn, d, rs⟩ := cell_at F₃ sD
    refine setItem_plain (items := vs.toArray) ⟨oo, n, g, cl, dn, d⟩ (by rw [List.size_toArray, rs.length]; exact hj) (by (first | lia | omega)) fun h' pl hs => ?_
    obtain ⟨o', n', g', cl', dn', d'⟩ := pl
    have hT : ∀ b o, s₃.heap.get? b = some o → Tup o → h'.get? b = some o := fun b o e t => (hs.2 b fun q => by subst q; exact (F₃.ok.cells _ _ sD).1.notTuple e t).trans e
    have G4 := Good.put (s' := { s₃ with heap := h' }) (cl' := .list (as.set j b)) F₃.ok ⟨rfl, rfl, rfl⟩ (fun b o nb e => (hs.2 b nb).trans e) sD (fun _ q => nomatch q)
      ⟨o', n', vs.set j v, g', cl', dn', by rw [d']; simp, (rs.mono hT as).set ((F₃.pend _ (.head _)).mono hT b) j⟩ (fun _ _ _ q => nomatch q)
    exact ⟨.next, ρ, _, (G3.trans G4 noneK).up, F₃.bare.stepL G4, trivial, q⟩) fun _ _ x => SExc.of x) hs
end

/-! # Text WV -/
/-! # The numbers drawn -/
noncomputable def SrcAt (σ : Store) (S : Addr) : Prop := ∃ a b : Int, σ S = some (.list [.int a, .int b]) ∧ 0 ≤ b ∧ b < 2147483647
theorem log2_small {n : Nat} (h : n < 2 ^ 60) : n.log2 < 60 := by
  by_cases h0 : n = 0
  · subst h0; decide
  · exact (Nat.log2_lt h0).mpr h
theorem py_small {x y : Int} (h : y.natAbs < 2 ^ 60) : Builtin.divisionGoesByPylong x y = false := by
  have := log2_small h
  unfold Builtin.divisionGoesByPylong
  dsimp only
  have e : (if (y == 0) = true then 0 else y.natAbs.log2 / 30 + 1) ≤ 300 := by
    split
    · (first | lia | omega)
    · (first | lia | omega)
  rw [decide_eq_false (by (first | lia | omega)), Bool.false_and]
theorem bits_small {i : Int} (h : i.natAbs < 2 ^ 60) : Builtin.Int.intBits i ≤ 64 := by
  have := log2_small h
  unfold Builtin.Int.intBits
  split <;> (first | lia | omega)
section
variable {c : Fc} {ρ : List (Str × AV)} {P : List (Value × AV)} {σ : Store} {Q : AV → Store → Prop} {X : Store → Prop}
theorem law_take_ok {S : Addr} {top : Nat} (hn : 1 ≤ c.n) (h1 : 1 ≤ top) (h2 : top ≤ 100) (hs : SrcAt σ S) (q : ∀ (d : Nat) σ', d < top → SrcAt σ' S → (∀ x, x ≠ S → σ' x = σ x) → Q (.int d) σ') : CallJ c ρ (.ref 588) [.loc S, .int top] σ Q X := by
  obtain ⟨a, b, hS, b0, b1⟩ := hs
  have mod_lt : ∀ x : Int, 0 ≤ x.fmod top ∧ x.fmod top < top := fun x => ⟨Int.fmod_nonneg_of_pos _ (by (first | lia | omega)), Int.fmod_lt_of_pos _ (by (first | lia | omega))⟩
  have out : ∀ (x : Int) σ', SrcAt σ' S → (∀ y, y ≠ S → σ' y = σ y) → Q (.int (x.fmod top)) σ' := fun x σ' h k => by
    have := q (x.fmod top).toNat σ' (by have := mod_lt x; (first | lia | omega)) h k
    rw [Int.toNat_of_nonneg (mod_lt x).1] at this
    exact this
  refine call_def0 c_law_take b_law_take hn (ρ₀ := [("source", .loc S), ("top", .int top)]) ⟨rfl, rfl⟩ fun L => ?_
  conv => arg 3; whnf
  repeat k_memK
  refine sub_list (fun _ _ => ⟨_, rfl⟩) hS (by decide) (by decide) rfl ?_
  repeat k_memK
  refine cmp_I (b := decide (0 < a)) rfl ?_
  by_cases ha : 0 < a
  · rw [if_pos (decide_eq_true ha)]
    repeat k_memK
    refine sub_list (fun _ _ => ⟨_, rfl⟩) hS (by decide) (by decide) rfl ?_
    repeat k_memK
    refine call_intI ?_
    repeat k_memK
    refine bin_modI (by (first | lia | omega)) ?_
    try refine S_cons ?_
    refine S_setI ?_ rfl
    repeat k_memK
    refine sub_list (fun _ _ => ⟨_, rfl⟩) hS (by decide) (by decide) rfl ?_
    repeat k_memK
    refine bin_divI (by (first | lia | omega)) (py_small (by (first | lia | omega))) ?_
    repeat k_memK
    refine ⟨S, _, 0, rfl, rfl, hS, (by show 0 < 2; decide), (by show 2 ≤ _; decide), ?_⟩
    repeat k_memK
    exact retq (out a _ ⟨_, b, Store.set_same, b0, b1⟩ fun y hy => Store.set_ne hy)
  · rw [if_neg (by simpa using ha)]
    refine S_nil ?_
    try refine S_cons ?_
    refine S_setI ?_ rfl
    repeat k_memK
    refine sub_list (fun _ _ => ⟨_, rfl⟩) hS (by decide) (by decide) rfl ?_
    repeat k_memK
    refine bin_mulI (.of_left (bits_small (by (first | lia | omega)))) ?_
    repeat k_memK
    refine bin_addI ?_
    repeat k_memK
    refine call_intI ?_
    repeat k_memK
    refine bin_modI (by decide) ?_
    repeat k_memK
    have m0 := Int.fmod_nonneg_of_pos (b * 39373 + 7) (show (0 : Int) < 2147483647 by decide)
    have m1 := Int.fmod_lt_of_pos (b * 39373 + 7) (show (0 : Int) < 2147483647 by decide)
    refine ⟨S, _, 1, rfl, rfl, hS, (by show 1 < 2; decide), (by show 2 ≤ _; decide), ?_⟩
    generalize (b * 39373 + 7).fmod 2147483647 = b' at m0 m1
    have hS' : (σ.set S (.list [.int a, .int b'])) S = some (.list [.int a, .int b']) := Store.set_same
    repeat k_memK
    refine sub_list (fun _ _ => ⟨_, rfl⟩) hS' (by decide) (by decide) rfl ?_
    repeat k_memK
    refine sub_list (fun _ _ => ⟨_, rfl⟩) hS' (by decide) (by decide) rfl ?_
    repeat k_memK
    refine bin_mulI (.of_left (bits_small (by (first | lia | omega)))) ?_
    repeat k_memK
    refine call_intI ?_
    repeat k_memK
    refine bin_modI (by decide) ?_
    repeat k_memK
    refine bin_divI (by decide) (py_small (by decide)) ?_
    repeat k_memK
    refine call_intI ?_
    repeat k_memK
    refine bin_modI (by (first | lia | omega)) ?_
    exact retq (out _ _ ⟨_, _, hS', m0, m1⟩ fun y hy => Store.set_ne hy)
/-- `_law_one` over a list of choices -/
theorem law_one_ok {S D : Addr} {as : List AV} (hn : 2 ≤ c.n) (h1 : 1 ≤ as.length) (h2 : as.length ≤ 100) (hs : SrcAt σ S) (hD : σ D = some (.list as)) (hSD : D ≠ S) (q : ∀ a ∈ as, ∀ σ', SrcAt σ' S → (∀ x, x ≠ S → σ' x = σ x) → Q a σ') : CallJ c ρ (.ref 595) [.loc S, .loc D] σ Q X := by
  refine call_def0 c_law_one b_law_one (by (first | lia | omega)) (ρ₀ := [("source", .loc S), ("things", .loc D)]) ⟨rfl, rfl⟩ fun L => ?_
  conv => arg 3; whnf
  repeat k_memK
  refine E_fn rfl g__law_take rfl ?_
  repeat k_memK
  refine call_lenL hD (by (first | lia | omega)) ?_
  repeat k_memK
  refine law_take_ok (calleeN hn) h1 h2 hs fun d σ' hd hs' k => ?_
  have hD' : σ' D = some (.list as) := (k D hSD).trans hD
  refine sub_list (fun _ _ => ⟨_, rfl⟩) hD' (by (first | lia | omega)) (by (first | lia | omega)) (b := as[d]) ?_ ?_
  · rw [Int.toNat_natCast]; exact List.getElem?_eq_getElem hd
  · exact retq (q _ (List.getElem_mem hd) σ' hs' k)
/-- `_law_path` -/
theorem law_path_ok {x : Str} {p : Int} (hn : 1 ≤ c.n) (q : Q (pathT x p) σ) : CallJ c ρ (.ref 607) [.str x, .int p] σ Q X := by
  refine call_def0 c_law_path b_law_path hn (ρ₀ := [("name", .str x), ("spot", .int p)]) ⟨rfl, rfl⟩ fun L => ?_
  conv => arg 3; whnf
  repeat k_memK
  exact retq q
end

/-! # Text WX -/
/-! # What the law draws behind a name -/
inductive Way where
  | field | call | index | meth | bare
noncomputable def Way.txt : Way → Str
  | .field => ".f"
  | .call => "(c)"
  | .index => "[d]"
  | .meth => ".m()"
  | .bare => ""
noncomputable def Way.tree (n : Nat) (t : AV) : Way → AV
  | .field => .tup [.str "field", .int (spotD t), t, .str "f"]
  | .call => .tup [.str "call", .int (spotD t), t, .tup [pathT "c" ((n : Int) + 1)]]
  | .index => .tup [.str "index", .int (spotD t), t, pathT "d" ((n : Int) + 1)]
  | .meth => .tup [.str "method", .int (spotD t), t, .str "m", .tup [], .tup []]
  | .bare => t
/-- old cells but the source stay -/
noncomputable def Kept (S : Addr) (σ σ' : Store) : Prop := ∀ x cl, x ≠ S → σ x = some cl → σ' x = some cl
theorem Kept.of {S : Addr} {σ σ' : Store} (h : ∀ x, x ≠ S → σ' x = σ x) : Kept S σ σ' := fun x cl n e => (h x n).trans e
theorem Kept.refl {S : Addr} {σ : Store} : Kept S σ σ := fun _ _ _ e => e
theorem Kept.trans {S : Addr} {σ₁ σ₂ σ₃ : Store} (h : Kept S σ₁ σ₂) (k : Kept S σ₂ σ₃) : Kept S σ₁ σ₃ := fun x cl n e => k x cl n (h x cl n e)
theorem Kept.new {S F : Addr} {σ : Store} {cl : Cell} (h : σ F = none) : Kept S σ (σ.set F cl) := fun x c n e => (Store.set_ne fun q => by rw [q, h] at e; cases e).trans e
theorem SrcAt.new {S F : Addr} {σ : Store} {cl : Cell} (h : SrcAt σ S) (hF : σ F = none) : SrcAt (σ.set F cl) S := by
  obtain ⟨a, b, e, r⟩ := h
  exact ⟨a, b, (Store.set_ne fun q => by rw [q, hF] at e; cases e).trans e, r⟩
section
variable {c : Fc} {ρ : List (Str × AV)} {P : List (Value × AV)} {σ : Store} {Q : AV → Store → Prop} {X : Store → Prop}
theorem law_behind_ok {S : Addr} {x : Str} {t : AV} {s : Int} (hn : 2 ≤ c.n) (hs : SrcAt σ S) (hx : x.length ≤ 2 ^ 20) (ht : t.spot = some s) (q : ∀ (w : Way) F σ', SrcAt σ' S → Kept S σ σ' → σ F = none → σ' F = some (.list [.str (x ++ w.txt), w.tree x.length t]) → Q (.loc F) σ') :
    CallJ c ρ (.ref 614) [.loc S, .str x, t] σ Q X := by
  refine call_def0 c_law_behind b_law_behind (by (first | lia | omega)) (ρ₀ := [("source", .loc S), ("text", .str x), ("tree", t)]) ⟨rfl, rfl⟩ fun L => ?_
  have es : spotD t = s := by unfold spotD; rw [ht]; rfl
  conv => arg 3; whnf
  repeat k_memK
  refine E_fn rfl g__law_take rfl ?_
  repeat k_memK
  refine law_take_ok (top := 6) (calleeN hn) (by decide) (by decide) hs fun d σ' hd hs' k => ?_
  have ka := Kept.of (σ := σ) k
  have fin : ∀ (w : Way) F, σ' F = none → Q (.loc F) (σ'.set F (.list [.str (x ++ w.txt), w.tree x.length t])) := fun w F hF =>
    q w F _ (hs'.new hF) (ka.trans (Kept.new hF)) (by
      cases e : σ F with
      | none => rfl
      | some cl =>
        exfalso
        by_cases n : F = S
        · subst n; obtain ⟨_, _, e2, _⟩ := hs'; rw [hF] at e2; cases e2
        · rw [ka F cl n e] at hF; cases hF) Store.set_same
  have ck : ∀ {k : Nat} {b : Bool}, (decide (d = k)) = b → cmpI .Eq (d : Int) (k : Int) = some b := fun {k b} e => by
    show some (((d : Int) == (k : Int))) = some b
    rw [← e]
    congr 1
    by_cases h : d = k
    · subst h; simp
    · rw [decide_eq_false h]; simp; (first | lia | omega)
  repeat k_memK
  refine cmp_I (b := decide (d = 0)) (ck (k := 0) rfl) ?_
  by_cases h0 : d = 0
  · rw [if_pos (decide_eq_true h0)]
    repeat k_memK
    refine bin_addS (by rw [sizeLine_eq]; show x.length + 2 ≤ _; (first | lia | omega)) ?_
    repeat k_memK
    refine spot_sub (fun _ _ => ⟨_, rfl⟩) ht ?_
    repeat k_memK
    intro F hF
    have := fin .field F hF
    unfold Way.tree at this
    rw [es] at this
    exact retq this
  rw [if_neg (by simpa using h0)]
  refine S_nil ?_
  repeat k_memK
  refine cmp_I (b := decide (d = 1)) (ck (k := 1) rfl) ?_
  by_cases h1 : d = 1
  · rw [if_pos (decide_eq_true h1)]
    repeat k_memK
    refine bin_addS (by rw [sizeLine_eq]; show x.length + 3 ≤ _; (first | lia | omega)) ?_
    repeat k_memK
    refine spot_sub (fun _ _ => ⟨_, rfl⟩) ht ?_
    repeat k_memK
    refine E_fn rfl g__law_path rfl ?_
    repeat k_memK
    refine call_lenS (by (first | lia | omega)) ?_
    repeat k_memK
    refine bin_addI ?_
    repeat k_memK
    refine law_path_ok (calleeN (by (first | lia | omega))) ?_
    repeat k_memK
    intro F hF
    have := fin .call F hF
    unfold Way.tree at this
    rw [es] at this
    exact retq this
  rw [if_neg (by simpa using h1)]
  refine S_nil ?_
  repeat k_memK
  refine cmp_I (b := decide (d = 2)) (ck (k := 2) rfl) ?_
  by_cases h2 : d = 2
  · rw [if_pos (decide_eq_true h2)]
    repeat k_memK
    refine bin_addS (by rw [sizeLine_eq]; show x.length + 3 ≤ _; (first | lia | omega)) ?_
    repeat k_memK
    refine spot_sub (fun _ _ => ⟨_, rfl⟩) ht ?_
    repeat k_memK
    refine E_fn rfl g__law_path rfl ?_
    repeat k_memK
    refine call_lenS (by (first | lia | omega)) ?_
    repeat k_memK
    refine bin_addI ?_
    repeat k_memK
    refine law_path_ok (calleeN (by (first | lia | omega))) ?_
    repeat k_memK
    intro F hF
    have := fin .index F hF
    unfold Way.tree at this
    rw [es] at this
    exact retq this
  rw [if_neg (by simpa using h2)]
  refine S_nil ?_
  repeat k_memK
  refine cmp_I (b := decide (d = 3)) (ck (k := 3) rfl) ?_
  by_cases h3 : d = 3
  · rw [if_pos (decide_eq_true h3)]
    repeat k_memK
    refine bin_addS (by rw [sizeLine_eq]; show x.length + 4 ≤ _; (first | lia | omega)) ?_
    repeat k_memK
    refine spot_sub (fun _ _ => ⟨_, rfl⟩) ht ?_
    repeat k_memK
    intro F hF
    have := fin .meth F hF
    unfold Way.tree at this
    rw [es] at this
    exact retq this
  rw [if_neg (by simpa using h3)]
  refine S_nil ?_
  repeat k_memK
  intro F hF
  have := fin .bare F hF
  have e : x ++ Way.txt .bare = x := by
    show Str.mk (x.cps ++ #[]) = x
    rw [Array.append_empty]
  rw [e] at this
  exact retq this
end

/-! # Text WY -/
/-! # Slices of lists -/
theorem VRels.take {h : Heap} : ∀ {vs : List Value} {as : List AV} (n : Nat), VRels h vs as → VRels h (vs.take n) (as.take n)
  | _, [], n, e => by cases e; simp; rfl
  | _, _ :: _, 0, _ => by simp; rfl
  | _, a :: as, n + 1, ⟨x, xs, e, r, rs⟩ => by subst e; exact ⟨x, xs.take n, rfl, r, rs.take n⟩
theorem VRels.drop {h : Heap} : ∀ {vs : List Value} {as : List AV} (n : Nat), VRels h vs as → VRels h (vs.drop n) (as.drop n)
  | _, [], n, e => by cases e; simp; rfl
  | _, _ :: _, 0, r => r
  | _, a :: as, n + 1, ⟨x, xs, e, r, rs⟩ => by subst e; exact rs.drop n
theorem VRels.reverse {h : Heap} : ∀ {vs : List Value} {as : List AV}, VRels h vs as → VRels h vs.reverse as.reverse
  | _, [], e => by cases e; rfl
  | _, a :: as, ⟨x, xs, e, r, rs⟩ => by
    subst e
    rw [List.reverse_cons, List.reverse_cons]
    exact rs.reverse.append ⟨x, [], rfl, r, rfl⟩
section
variable {c : Fc} {ρ : List (Str × AV)} {P : List (Value × AV)} {σ : Store} {Q : AV → Store → Prop} {X : Store → Prop}
theorem slice_list {A : Around} {outer : List Env} {s : Shared} {D : Addr} {as bs : List AV} {value slice : Expr} {vl vu vs : Value} {lo hi st : Option Int} {Q' : Value → Shared → Prop} {E' : Value → Shared → Prop} (F : InFr c ρ P A outer s σ) (sD : σ D = some (.list as)) (hl : as.length ≤ sizeLine)
    (hs : Plain slice) (pl : IsPart vl lo) (pu : IsPart vu hi) (ps : IsPart vs st) (h0 : st ≠ some 0) (pick : ∀ (h : Heap) (xs : List Value), VRels h xs as → VRels h (slicePick xs.toArray lo hi st).toList bs)
    (q : ∀ F' s', σ F' = none → Good c.w c.H none s σ s' (σ.set F' (.list bs)) → Q' (.ref F') s') :
    wpAny (model pw c.w) A (subscriptTail value slice (.ref D) (.ref s.heap.objs.size)) Q' E' { s with heap := s.heap.push { cls := .type "slice", data := .fields #[vl, vu, vs] } } := by
  have G1 : Good c.w c.H none s σ { s with heap := s.heap.push { cls := .type "slice", data := .fields #[vl, vu, vs] } } σ := .keep F.ok ⟨rfl, rfl, rfl⟩ push_keep
  have F1 := F.step G1 (P' := P) fun p hp => .inl hp
  obtain ⟨o, n, xs, g, cl, dn, d, rs⟩ := cell_at F1 sD
  have T : (s.heap.push { cls := .type "slice", data := .fields #[vl, vu, vs] }).IsList D xs.toArray := ⟨o, g, cl, n, d⟩
  obtain ⟨ops, hops⟩ := hs (.ref D) (.ref s.heap.objs.size)
  refine tail_any (s := { s with heap := s.heap.push { cls := .type "slice", data := .fields #[vl, vu, vs] } }) T.typeIs slot_list_getitem.lookup (wpAny_getItem_list_slice T (Heap.IsSliceOf.new ..) pl pu ps h0 ?_ (by rw [List.size_toArray, rs.length]; exact hl)) hops
  refine q _ _ F1.ok.fresh (G1.trans (Good.alloc (s := { s with heap := s.heap.push { cls := .type "slice", data := .fields #[vl, vu, vs] } }) (s' := { s with heap := (s.heap.push { cls := .type "slice", data := .fields #[vl, vu, vs] }).push { cls := .type "list", data := .seq (slicePick xs.toArray lo hi st) } }) (cl := .list bs) F1.ok ⟨rfl, rfl, rfl⟩ push_keep (get_end _) (none_at_end F1.ok.stays) ⟨_, 0, (slicePick xs.toArray lo hi st).toList, Heap.get?_push_size _ rfl, rfl, rfl, by rw [Array.toArray_toList], (pick _ xs rs).mono fun b o e _ => push_keep b o e⟩ (fun _ _ _ q => nomatch q)) noneK)
theorem E_sl {value : Expr} {lower upper step : Option Expr} {p pos : Pos} (hs : Plain (.Slice lower upper step p))
    (h : Ev c ρ P value σ (fun a σ₁ => PartJ c ρ P lower σ₁ (fun l σ₂ => PartJ c ρ P upper σ₂ (fun u σ₃ => PartJ c ρ P step σ₃ (fun st σ₄ => ∃ D as bs, a = .loc D ∧ σ₄ D = some (.list as) ∧ as.length ≤ sizeLine ∧ st ≠ some 0 ∧
      (∀ (h : Heap) (xs : List Value), VRels h xs as → VRels h (slicePick xs.toArray l u st).toList bs) ∧ ∀ F, σ₄ F = none → Q (.loc F) (σ₄.set F (.list bs))) X) X) X) X) : Ev c ρ P (.Subscript value (.Slice lower upper step p) pos) σ Q X := fun A outer s F =>
  Subscript_ (h.go F (fun v a s₁ σ₁ G r k => by
    have F₁ : InFr c ρ ((v, a) :: P) A outer s₁ σ₁ := F.step G fun p hp => by
      rcases List.mem_cons.mp hp with rfl | hp
      · exact .inr r
      · exact .inl hp
    refine wpAny_Slice ((k.weaken (P' := (v, a) :: P) fun p hp => .tail _ hp).go F₁ (fun vl l s₂ σ₂ G₂ rl k₂ => ?_) (ExcPost.up G))
    have F₂ := F₁.step G₂ (P' := (v, a) :: P) fun p hp => .inl hp
    refine (k₂.weaken (P' := (v, a) :: P) fun p hp => .tail _ hp).go F₂ (fun vu u s₃ σ₃ G₃ ru k₃ => ?_) (ExcPost.up (G.trans G₂ noneK))
    have F₃ := F₂.step G₃ (P' := (v, a) :: P) fun p hp => .inl hp
    have G3 := (G.trans G₂ noneK).trans G₃ noneK
    refine (k₃.weaken (P' := (v, a) :: P) fun p hp => .tail _ hp).go F₃ (fun vs st s₄ σ₄ G₄ rt ⟨D, as, bs, e, sD, hl, h0, pick, q⟩ => ?_) (ExcPost.up G3)
    have F₄ := F₃.step G₄ (P' := (v, a) :: P) fun p hp => .inl hp
    have G4 := G3.trans G₄ noneK
    subst e
    obtain rfl : v = .ref D := F₄.pend _ (.head _)
    have part : ∀ {v : Value} {l : Option Int}, (∃ pr : Option (Int × Tok), v = partValue pr ∧ pr.map (·.1) = l) → IsPart v l := fun {v l} ⟨pr, e1, e2⟩ => by
      subst e1 e2
      cases pr with
      | none => exact .none
      | some p => exact .int p.1 p.2
    exact slice_list F₄ sD hl hs (part rl) (part ru) (part rt) h0 pick fun F' s' hF G5 => ⟨.loc F', _, G4.trans G5 noneK, rfl, q F' hF⟩) fun _ _ x => x)
end

/-! # Text WZ -/
/-! # Texts as lists of code points -/
theorem cut_list {T : Str} {i j : Nat} (hij : i ≤ j) (hi : i ≤ T.length) : (cut T i j).cps.toList = (T.cps.toList.drop i).take (j - i) := by
  have key : ∀ m, i ≤ m → m ≤ T.length → (sliceS T (some (i : Int)) (some (m : Int))).cps.toList = (T.cps.toList.drop i).take (m - i) := fun m h1 h2 => by
    unfold sliceS
    split
    · rename_i h
      rw [PySem.StrLaws.strSliceIndices_plain h1 h2, List.length_map, List.length_range] at h
      have e : m - i = T.length := by simpa using h
      have i0 : i = 0 := by (first | lia | omega)
      subst i0
      rw [List.drop_zero, List.take_of_length_le (by rw [Array.length_toList]; exact Nat.le_of_eq e.symm)]
    · exact PySem.StrLaws.sliced_plain T h1 h2
  by_cases hj : j ≤ T.length
  · exact key j hij hj
  · have e : cut T i j = cut T i T.length := by
      have : Builtin.Str.strSliceIndices (some (i : Int)) (some (j : Int)) 1 T.length = Builtin.Str.strSliceIndices (some (i : Int)) (some (T.length : Int)) 1 T.length := by
        unfold Builtin.Str.strSliceIndices
        have h2 : ¬ ((j : Int) < 0) := by (first | lia | omega)
        have h3 : ¬ ((T.length : Int) < 0) := by (first | lia | omega)
        have e2 : min (j : Int) (T.length : Int) = min (T.length : Int) (T.length : Int) := by (first | lia | omega)
        simp only [h2, h3, if_false, e2, show ((1 : Int) > 0) = True from by simp, if_true]
      unfold cut sliceS
      rw [this]
    rw [e, key T.length hi (Nat.le_refl _)]
    have hl : T.cps.toList.length = T.length := Array.length_toList
    rw [List.take_of_length_le (by rw [List.length_drop, hl]; exact Nat.le_refl _), List.take_of_length_le (by rw [List.length_drop, hl]; (first | lia | omega))]
noncomputable def chC (c : Nat) (S : Str) : Bool := !(Builtin.Str.occurrences S ⟨#[c]⟩ 0 S.length 1).isEmpty
theorem item_at {T : Str} {k c : Nat} (h : T.cps.toList[k]? = some c) : Txt.item T k = ⟨#[c]⟩ := by
  have hl := (List.getElem?_eq_some_iff.mp h).1
  rw [Array.length_toList] at hl
  have hl2 : k < T.length := hl
  unfold Txt.item Txt.charAt seqIndex?
  have h1 : ¬ ((k : Int) < 0) := by (first | lia | omega)
  have h2 : ((k : Int) < T.length) := by (first | lia | omega)
  rw [Array.getElem?_toList] at h
  simp [h1, h2, h]
theorem chIn_at {T S : Str} {k c : Nat} (h : T.cps.toList[k]? = some c) : chIn T k S = chC c S := by
  unfold chIn chC
  rw [item_at h]

/-! # Text WZA -/
theorem str_ext {a b : Str} (h : a.cps.toList = b.cps.toList) : a = b := by
  cases a; cases b; congr 1; exact Array.toList_inj.mp h
theorem chars_mid {T : Str} {pre w post : List Nat} (hT : T.cps.toList = pre ++ (w ++ post)) {m : Nat} (hm : m < w.length) : T.cps.toList[pre.length + m]? = some w[m] := by
  rw [hT, List.getElem?_append_right (by (first | lia | omega)), List.getElem?_append_left (by (first | lia | omega))]
  have : pre.length + m - pre.length = m := by (first | lia | omega)
  rw [this, List.getElem?_eq_getElem hm]
theorem chars_after {T : Str} {pre w post : List Nat} (hT : T.cps.toList = pre ++ (w ++ post)) : T.cps.toList[pre.length + w.length]? = post.head? := by
  rw [hT, ← List.append_assoc, List.getElem?_append_right (by simp)]
  simp [List.head?_eq_getElem?]
theorem len_T {T : Str} {pre w post : List Nat} (hT : T.cps.toList = pre ++ (w ++ post)) : T.length = pre.length + w.length + post.length := by
  have := congrArg List.length hT
  rw [Array.length_toList] at this
  simp at this
  show T.cps.size = _
  (first | lia | omega)
theorem cut_mid {T : Str} {pre w post : List Nat} (hT : T.cps.toList = pre ++ (w ++ post)) : cut T pre.length (pre.length + w.length) = ⟨w.toArray⟩ := by
  apply str_ext
  have := len_T hT
  rw [cut_list (by (first | lia | omega)) (by (first | lia | omega)), hT, List.drop_left]
  have e : pre.length + w.length - pre.length = w.length := by (first | lia | omega)
  rw [e, List.take_left]
theorem run_mid {T S : Str} {pre w post : List Nat} (hT : T.cps.toList = pre ++ (w ++ post)) (hall : ∀ c ∈ w, chC c S = true) (hp : ∀ c, post.head? = some c → chC c S = false) : RunTo T S pre.length (pre.length + w.length) where
  le := by (first | lia | omega)
  lt := by have := len_T hT; (first | lia | omega)
  run := fun k h1 h2 => by
    have e : pre.length + (k - pre.length) = k := by (first | lia | omega)
    have hm : k - pre.length < w.length := by (first | lia | omega)
    have := chars_mid hT hm
    rw [e] at this
    rw [chIn_at this]
    exact hall _ (List.getElem_mem hm)
  ends := fun h => by
    have hl := len_T hT
    have ha := chars_after hT
    cases hp2 : post with
    | nil => rw [hp2] at hl; simp at hl; (first | lia | omega)
    | cons c r =>
      rw [hp2] at ha
      rw [chIn_at ha]
      exact hp c (by rw [hp2]; rfl)
theorem word_name {T : Str} {pre w post : List Nat} (hT : T.cps.toList = pre ++ (w ++ post)) {c0 : Nat} (h0 : w.head? = some c0) (hb : chC c0 NB = true) (hall : ∀ c ∈ w, chC c NS = true) (hp : ∀ c, post.head? = some c → chC c NS = false) :
    Word T pre.length ⟨"name", ⟨w.toArray⟩, pre.length⟩ (pre.length + w.length) := by
  have e := cut_mid hT
  rw [← e]
  refine .name ?_ (run_mid hT hall hp)
  cases w with
  | nil => cases h0
  | cons c r =>
    cases h0
    have this : T.cps.toList[pre.length]? = some c0 := chars_mid hT (m := 0) (by simp)
    rw [chIn_at this]
    exact hb
theorem signLike_false {T s' : Str} {pre rest : List Nat} (hT : T.cps.toList = pre ++ rest) (h : ¬ s'.cps.toList <+: rest) : signLike T pre.length s' = false := by
  unfold signLike
  refine beq_eq_false_iff_ne.mpr fun e => h ?_
  have hl : pre.length ≤ T.length := by
    have := congrArg List.length hT
    rw [Array.length_toList, List.length_append] at this
    show _ ≤ T.cps.size
    (first | lia | omega)
  have e2 := cut_list (T := T) (i := pre.length) (j := pre.length + s'.length) (by (first | lia | omega)) hl
  rw [e, hT, List.drop_left] at e2
  rw [e2]
  exact List.take_prefix _ _
theorem signLike_true {T s' : Str} {pre post : List Nat} (hT : T.cps.toList = pre ++ (s'.cps.toList ++ post)) : signLike T pre.length s' = true := by
  have e := cut_mid hT
  have hl : s'.cps.toList.length = s'.length := Array.length_toList
  rw [hl] at e
  unfold signLike
  rw [e]
  exact beq_iff_eq.mpr (str_ext (by simp))
/-- a differing sign at some place -/
noncomputable def clash : List Nat → List Nat → Bool
  | [], _ => false
  | _ :: _, [] => false
  | a :: s, b :: r => !(Nat.beq a b) || clash s r
theorem clash_no : ∀ {s known rest : List Nat}, clash s known = true → ¬ s <+: known ++ rest
  | [], _, _, h => by cases h
  | _ :: _, [], _, h => by cases h
  | a :: s, b :: r, rest, h => fun hp => by
    unfold clash at h
    rw [List.cons_append, List.cons_prefix_cons] at hp
    rw [hp.1, Nat.beq_refl] at h
    exact clash_no (by simpa using h) hp.2
/-- the signs ahead of the `k`th clash with what stands there -/
noncomputable def allClash (k : Nat) (known : List Nat) : Bool := (SG.take k).all fun s => clash s.cps.toList known
theorem word_sign {T : Str} {pre post known rest : List Nat} {k : Nat} {s : Str} {c0 : Nat} (hk : SG[k]? = some s) (hT : T.cps.toList = pre ++ (s.cps.toList ++ post)) (h0 : s.cps.toList.head? = some c0) (h1 : chC c0 NB = false) (h2 : chC c0 FG = false) (h3 : c0 ≠ 39)
    (hkn : s.cps.toList ++ post = known ++ rest) (hc : allClash k known = true) : Word T pre.length ⟨"sign", s, pre.length⟩ (pre.length + s.length) := by
  have hne : 0 < s.cps.toList.length := by
    cases h : s.cps.toList with
    | nil => rw [h] at h0; cases h0
    | cons a b => simp
  have hc0 : s.cps.toList[0] = c0 := by
    rw [List.head?_eq_getElem?, List.getElem?_eq_getElem hne] at h0
    exact Option.some.inj h0
  have at0 : T.cps.toList[pre.length]? = some c0 := by
    have := chars_mid hT hne
    rw [hc0] at this; exact this
  refine .sign (by rw [chIn_at at0]; exact h1) (by rw [chIn_at at0]; exact h2) ?_ hk (fun m s' hm hs' => ?_) (signLike_true hT)
  · rw [item_at at0]
    refine beq_eq_false_iff_ne.mpr fun e => h3 ?_
    have := congrArg (fun z : Str => z.cps.toList) e
    have e39 : (Str.ofString "'").cps.toList = [39] := by decide
    rw [e39] at this
    simpa using this
  · refine signLike_false hT ?_
    rw [hkn]
    refine clash_no (List.all_eq_true.mp hc s' ?_)
    rw [List.mem_take_iff_getElem]
    obtain ⟨hl, e⟩ := List.getElem?_eq_some_iff.mp hs'
    exact ⟨m, by (first | lia | omega), e⟩

/-! # Text WCA -/
/-! # Comprehensions -/
/-- a comprehension's names, beside the frame at hand -/
structure CF (c : Fc) (ρ ρC : List (Str × AV)) (C : Addr) (A : Around) (outer : List Env) (s : Shared) (σ : Store) : Prop where
  F : InFr c ρ [] A outer s σ
  ns : ∃ m, s.heap.Ns C m ∧ ∀ x av, ρC.lookup x = some av → ∃ v, m x = some v ∧ VRel s.heap v av
  out : σ C = none
  base : c.H.get? C = none
  fr : ∀ e ∈ c.env :: outer, ∀ L, e.frame = some L → L ≠ C
section
variable {c : Fc} {ρ ρC ρ₁ : List (Str × AV)} {C : Addr} {A : Around} {outer : List Env} {s s' : Shared} {σ σ' : Store}
theorem CF.good (x : CF c ρ ρC C A outer s σ) (G : Good c.w c.H none s σ s' σ') : CF c ρ ρC C A outer s' σ' := by
  obtain ⟨m, hn, hr⟩ := x.ns
  refine ⟨x.F.stepL G, ⟨m, hn.at fun o e => G.evo C o e x.out (fun q => nomatch q), fun y av e => ?_⟩, ?_, x.base, x.fr⟩
  · obtain ⟨v, e1, e2⟩ := hr y av e
    exact ⟨v, e1, G.vrel x.F.ok (fun _ q => nomatch q) e2⟩
  · obtain ⟨o, _, _, e, _⟩ := hn
    exact G.old C o e x.out
/-- objects `W` that nobody else knows change -/
structure Own (c : Fc) (W : Addr → Prop) (outer : List Env) (h : Heap) (σ : Store) : Prop where
  tup : ∀ b o, W b → h.get? b = some o → ¬ Tup o
  out : ∀ b, W b → σ b = none
  base : ∀ b, W b → c.H.get? b = none
  fr : ∀ e ∈ c.env :: outer, ∀ L, e.frame = some L → ¬ W L
theorem CF.change {W : Addr → Prop} (x : CF c ρ ρC C A outer s σ) (O : Own c W outer s.heap σ) (hC : ¬ W C) {h' : Heap} {tk : Nat} (k : ∀ b o, ¬ W b → s.heap.get? b = some o → h'.get? b = some o) : CF c ρ ρC C A outer { s with heap := h', toks := tk } σ := by
  obtain ⟨m, hn, hr⟩ := x.ns
  refine ⟨x.F.change W k O.tup O.out O.base O.fr, ⟨m, hn.at fun o e => k C o hC e, fun y av e => ?_⟩, x.out, x.base, x.fr⟩
  obtain ⟨v, e1, e2⟩ := hr y av e
  exact ⟨v, e1, e2.mono (fun b o e t => k b o (fun q => O.tup b o q e t) e) av⟩
theorem CF.ownC (x : CF c ρ ρC C A outer s σ) : Own c (fun b => b = C) outer s.heap σ := by
  obtain ⟨m, hn, _⟩ := x.ns
  obtain ⟨o, e, t⟩ := ns_notTup hn
  exact ⟨fun b o' q e' => by subst q; rw [e] at e'; cases e'; exact t, fun b q => by subst q; exact x.out, fun b q => by subst q; exact x.base, fun y hy L hL q => x.fr y hy L hL q⟩
theorem CF.sub (x : CF c ρ ρ₁ C A outer s σ) (h : SubL ρ₁ ρC) : CF c ρ ρC C A outer s σ :=
  { x with ns := let ⟨m, hn, hr⟩ := x.ns; ⟨m, hn, fun y av e => hr y av (h.all y av e)⟩ }
/-- since the base: what was there and nobody's stays -/
theorem Good.own {W : Addr → Prop} {s₀ : Shared} {σ₀ : Store} (G : Good c.w c.H none s₀ σ₀ s σ) {h' : Heap} {tk : Nat} (ok : HeapOK c.w c.H h' σ) (k : ∀ b o, ¬ W b → s.heap.get? b = some o → h'.get? b = some o) (hW : ∀ b o, s₀.heap.get? b = some o → σ₀ b = none → ¬ W b) :
    Good c.w c.H none s₀ σ₀ { s with heap := h', toks := tk } σ :=
  ⟨G.rest, ok, fun b o e n l => k b o (hW b o e n) (G.evo b o e n l), G.old⟩
theorem CF.store {scope : Scope} {cl : List (Str × Addr)} {P : List (Value × AV)} {x : Str} {v : Value} {a : AV} {Q' : Unit → Shared → Prop} {E' : Value → Shared → Prop} (hx : scope.names.lookup x = some .local) (hk : scope.kind = .function) (F : CF c ρ ρC C A outer s σ) (r : VRel s.heap v a) (hp : ∀ p ∈ P, VRel s.heap p.1 p.2)
    (q : ∀ h' tk, CF c ρ (upd ρC x a) C A outer { s with heap := h', toks := tk } σ → (∀ b o, b ≠ C → s.heap.get? b = some o → h'.get? b = some o) → (∀ p ∈ P, VRel h' p.1 p.2) → Q' () { s with heap := h', toks := tk }) : wpAny (model pw c.w) A (storeName (compEnvC scope cl C c.env) x v) Q' E' s := by
  obtain ⟨m, hn, hr⟩ := F.ns
  have hl : (compEnvC scope cl C c.env).kindOf x = some .local := lookup_relabel_local hx
  refine wpAny_storeName_local (env := compEnvC scope cl C c.env) hl hn (fun h' hn' hs => ?_) (by show (scope.kind == .class || _) = false; simp [compEnvC, relabel, hk])
  have k : ∀ b o, b ≠ C → s.heap.get? b = some o → h'.get? b = some o := fun b o hb e => (hs.2 b hb).trans e
  have O := F.ownC
  have up : ∀ {v : Value} (a : AV), VRel s.heap v a → VRel h' v a := fun a r => r.mono (fun b o e t => k b o (fun q => O.tup b o q e t) e) a
  refine q h' _ ⟨F.F.change (fun b => b = C) k O.tup O.out O.base O.fr, ⟨_, hn', fun y av e => ?_⟩, F.out, F.base, F.fr⟩ k fun p h => up _ (hp p h)
  rw [lookup_upd] at e
  by_cases z : y = x
  · rw [if_pos z] at e ⊢; cases e; exact ⟨v, rfl, up _ r⟩
  · rw [if_neg z] at e ⊢
    obtain ⟨u, e1, e2⟩ := hr y av e
    exact ⟨u, e1, up _ e2⟩
end
/-! ## Targets -/
noncomputable def TgtC (c : Fc) (ρ ρC : List (Str × AV)) (C : Addr) (cenv : Env) (target : Expr) (a : AV) (σ : Store) (ρ₂ : List (Str × AV)) : Prop := ∀ A outer s v, CF c ρ ρC C A outer s σ → VRel s.heap v a → ∀ (Q' : Unit → Shared → Prop) (E' : Value → Shared → Prop),
  (∀ h' tk, CF c ρ ρ₂ C A outer { s with heap := h', toks := tk } σ → (∀ b o, b ≠ C → s.heap.get? b = some o → h'.get? b = some o) → Q' () { s with heap := h', toks := tk }) → wpAny (model pw c.w) A (assign target cenv v) Q' E' s
section
variable {c : Fc} {ρ ρC : List (Str × AV)} {C : Addr} {σ : Store} {scope : Scope} {cl : List (Str × Addr)}
theorem tgtC_name {x : Str} {px : Pos} {a : AV} (hx : scope.names.lookup x = some .local) (hk : scope.kind = .function) : TgtC c ρ ρC C (compEnvC scope cl C c.env) (.Name x px) a σ (upd ρC x a) := fun A outer s v F r Q' E' q =>
  wpAny_assign_Name (CF.store (P := []) hx hk F r (fun _ h => nomatch h) fun h' tk F' k _ => q h' tk F' k)
theorem tgtC_pair {x y : Str} {px py tp : Pos} {k : Nat} {a1 a2 : AV} (hx : scope.names.lookup x = some .local) (hy : scope.names.lookup y = some .local) (hk : scope.kind = .function) :
    TgtC c ρ ρC C (compEnvC scope cl C c.env) (.Tuple [.Name x px, .Name y py] k tp) (.tup [a1, a2]) σ (upd (upd ρC x a1) y a2) := fun A outer s v F r Q' E' q => by
  show wpAny _ _ (do standAt tp; let items ← holding [v] (unpackItems v 2 none); assignInOrder [assign (.Name x px) (compEnvC scope cl C c.env), assign (.Name y py) (compEnvC scope cl C c.env)] items) _ _ s
  refine wpAny_bind (wpAny_standAt ?_)
  refine wpAny_bind (wpAny_holding (items_ (n := 2) rfl F.F r (rfl : Items σ (.tup [a1, a2]) [a1, a2]) fun vs h' hk' rs => ?_))
  have G2 : Good c.w c.H none s σ { s with heap := h' } σ := .keep F.F.ok ⟨rfl, rfl, rfl⟩ hk'
  have F₂ := F.good G2
  obtain ⟨v1, v2, rfl, r1, r2⟩ := vrels2 rs
  show wpAny _ _ (do holding [v2] (assign (.Name x px) _ v1); (do holding [] (assign (.Name y py) _ v2); pure ())) _ _ _
  refine wpAny_bind (wpAny_holding (wpAny_assign_Name ?_))
  refine CF.store (P := [(v2, a2)]) hx hk F₂ r1 (fun p hp => by cases List.mem_singleton.mp hp; exact r2) fun h3 tk3 F3 k3 hp3 => ?_
  refine wpAny_bind (wpAny_holding (wpAny_assign_Name (CF.store (P := []) hy hk F3 (hp3 (v2, a2) (.head _)) (fun _ h => nomatch h) fun h4 tk4 F4 k4 _ => wpAny_pure ?_)))
  exact q h4 tk4 F4 fun b o nb e => k4 b o nb (k3 b o nb (hk' b o e))
end
/-! ## Iterators -/
structure IterC (c : Fc) (it : Addr) (W : Addr → Prop) (target : Expr) (as : List AV) (side : Store → Prop) (St : Nat → Heap → Prop) : Prop where
  next : ∀ {A : Around} {E : Value → Shared → Prop} {ρ outer s σ k a} {Q : Value → Shared → Prop}, InFr c ρ [] A outer s σ → Own c W outer s.heap σ → side σ → St k s.heap → as[k]? = some a →
    (∀ v h' tk, (∀ b o, ¬ W b → s.heap.get? b = some o → h'.get? b = some o) → VRel h' v a → St (k + 1) h' → Q v { s with heap := h', toks := tk }) →
      wpAny (model pw c.w) A (pyNext (.ref it)) (fun r s₁ => ∃ v, r = some v ∧ wpAny (model pw c.w) A (letOwnedTupleGo target (.ref it) v) (fun _ s₂ => Q v s₂) E s₁) E s
  stop : ∀ {A : Around} {E : Value → Shared → Prop} {ρ outer s σ k} {Q : Option Value → Shared → Prop}, InFr c ρ [] A outer s σ → Own c W outer s.heap σ → side σ → St k s.heap → as[k]? = none →
    (∀ h' tk, (∀ b o, ¬ W b → s.heap.get? b = some o → h'.get? b = some o) → Q none { s with heap := h', toks := tk }) → wpAny (model pw c.w) A (pyNext (.ref it)) Q E s
  keeps : ∀ {k h h'}, St k h → (∀ b o, h.get? b = some o → (W b ∨ Tup o) → h'.get? b = some o) → St k h'
  own : ∀ {k h}, St k h → ∀ b, W b → ∃ o, h.get? b = some o ∧ ¬ Tup o
/-! ## The loop of the last clause -/
noncomputable def testsOf (ifs : List Expr) (env : Env) : Sem Bool := forIn ifs true fun c r => if r = true then do let ok ← isTrue c env (eval c env); pure (ForInStep.yield ok) else pure (ForInStep.yield r)
noncomputable def Emits (e : Expr) (depth : Nat) (p : Pos) (target : Expr) (ifs : List Expr) (elt : Expr) (it acc : Value) (env : Env) : Prop :=
  compTurn e depth it acc env = (standAt p >>= fun _ => pyNext it >>= fun r => match r with
    | none => pure (.done .next)
    | some v => letOwnedTupleGo target it v >>= fun _ => assign target env v >>= fun _ => testsOf ifs env >>= fun ok =>
        if ok = true then (eval elt env >>= fun x => call (.builtin "list.append") [acc, x] >>= fun _ => pure ()) >>= fun _ => again (.compLoop e depth it acc env) else again (.compLoop e depth it acc env))
section
variable {prog : Program} {w : World} {A : Around} {R : Result → Shared → Prop} {s : Shared}
theorem emit_loop {e elt target : Expr} {depth : Nat} {p : Pos} {ifs : List Expr} {it acc : Value} {env : Env} (hq : (Code.compLoop e depth it acc env).quiet = true) (hu : A.under (.compLoop e depth it acc env) = A)
    (hd : denote table (.compLoop e depth it acc env) = (compTurn e depth it acc env).onRaise (fun x => do noteFrame x env; theTreesLotGoes x)) (ht : Emits e depth p target ifs elt it acc env) (I : Nat → Shared → Prop)
    (turn : ∀ n s, I n s → wpAny (model prog w) A (pyNext it) (fun r s₁ => match r with
      | none => R (.ok .next) s₁
      | some v => wpAny (model prog w) A (letOwnedTupleGo target it v) (fun _ s₂ => wpAny (model prog w) A (assign target env v) (fun _ s₃ => wpAny (model prog w) A (testsOf ifs env) (fun ok s₄ =>
            if ok = true then wpAny (model prog w) A (eval elt env) (fun x s₅ =>
              wpAny (model prog w) A (call (.builtin "list.append") [acc, x]) (fun _ s₆ => ∃ m, m < n ∧ I m s₆) (fun _ _ => False) s₅) (fun _ _ => False) s₄
            else ∃ m, m < n ∧ I m s₄) (fun _ _ => False) s₃) (fun _ _ => False) s₂) (fun _ _ => False) s₁) (fun _ _ => False) s)
    (n : Nat) (h : I n s) : codeAny (model prog w) A (.compLoop e depth it acc env) R s := by
  refine codeAny_loop hq I (fun n s hI => ?_) n h
  rw [hu]
  show wpAny _ A (denote table (.compLoop e depth it acc env)) _ _ s
  rw [hd]
  refine wpAny_noted (wpAny_mono (E := fun _ _ => False) ?_ (fun _ _ x => x) fun _ _ x => x.elim)
  rw [ht]
  refine wpAny_bind (wpAny_standAt (wpAny_bind (wpAny_mono (turn n s hI) (fun r s₁ h₁ => ?_) fun _ _ h' => h')))
  cases r with
  | none => exact wpAny_pure h₁
  | some v =>
    refine wpAny_bind (wpAny_mono h₁ (fun _ s₂ h₂ => wpAny_bind (wpAny_mono h₂ (fun _ s₃ h₃ => wpAny_bind (wpAny_mono h₃ (fun ok s₄ h₄ => ?_) fun _ _ h' => h')) fun _ _ h' => h')) fun _ _ h' => h')
    cases ok with
    | false => exact wpAny_pure ⟨rfl, h₄⟩
    | true =>
      rw [if_pos rfl] at h₄ ⊢
      exact wpAny_bind (wpAny_bind (wpAny_mono h₄ (fun x s₅ h₅ => wpAny_bind (wpAny_mono h₅ (fun _ s₆ h₆ => wpAny_pure (wpAny_pure ⟨rfl, h₆⟩)) fun _ _ h' => h')) fun _ _ h' => h'))
end
/-- a tree in a comprehension's names: no faults -/
noncomputable def EvC (c : Fc) (ρ ρC : List (Str × AV)) (C : Addr) (cenv : Env) (e : Expr) (σ : Store) (Q : AV → Store → Prop) : Prop :=
  ∀ A outer s, CF c ρ ρC C A outer s σ → wpAny (model pw c.w) A (eval e cenv) (fun v s' => ∃ b σ', Good c.w c.H none s σ s' σ' ∧ VRel s'.heap v b ∧ Q b σ') (fun _ _ => False) s
noncomputable def TsC (c : Fc) (ρ ρC : List (Str × AV)) (C : Addr) (cenv : Env) (ifs : List Expr) (σ : Store) (Q : Bool → Store → Prop) : Prop :=
  ∀ A outer s, CF c ρ ρC C A outer s σ → wpAny (model pw c.w) A (testsOf ifs cenv) (fun b s' => ∃ σ', Good c.w c.H none s σ s' σ' ∧ Q b σ') (fun _ _ => False) s
section
variable {c : Fc} {ρ ρ₀ : List (Str × AV)} {C D it p0 : Addr} {σ : Store}
theorem TsC_nil {ρC : List (Str × AV)} {cenv : Env} {Q : Bool → Store → Prop} (q : Q true σ) : TsC c ρ ρC C cenv [] σ Q := fun A outer s F => wpAny_pure ⟨σ, .refl F.F.ok, q⟩
theorem Good.app {s s' : Shared} {as : List AV} {b : AV} {x : Value} {h' : Heap} {vs : List Value} (ok : HeapOK c.w c.H s.heap σ) (sD : σ D = some (.list as)) (rs : VRels s.heap vs as) (rx : VRel s.heap x b) (pl : PlainL h' D (vs.toArray.push x)) (hs : Heap.SameBut D s.heap h') :
    Good c.w c.H none s σ { s with heap := h' } (σ.set D (.list (as ++ [b]))) := by
  obtain ⟨o', n', g', cl', dn', d'⟩ := pl
  have hT : ∀ b o, s.heap.get? b = some o → Tup o → h'.get? b = some o := fun b o e t => (hs.2 b fun q => by subst q; exact (ok.cells _ _ sD).1.notTuple e t).trans e
  refine Good.put (s' := { s with heap := h' }) (cl' := .list (as ++ [b])) ok ⟨rfl, rfl, rfl⟩ (fun b o nb e => (hs.2 b nb).trans e) sD (fun _ q => nomatch q) ?_ (fun _ _ _ q => nomatch q)
  exact ⟨o', n', vs ++ [x], g', cl', dn', by rw [d']; simp, (rs.mono hT as).append ⟨x, [], rfl, rx.mono hT b, rfl⟩⟩
/-- the loop of the last clause, in the calculus -/
theorem emit_list {e elt target : Expr} {depth : Nat} {p : Pos} {ifs : List Expr} {cenv : Env} {as : List AV} {side : Store → Prop} {St : Nat → Heap → Prop} {W : Addr → Prop} {A : Around} {outer : List Env} {s₀ s : Shared} {σ₀ : Store} {R : Result → Shared → Prop}
    (hq : (Code.compLoop e depth (.ref it) (.ref D) cenv).quiet = true) (hu : A.under (.compLoop e depth (.ref it) (.ref D) cenv) = A)
    (hd : denote table (.compLoop e depth (.ref it) (.ref D) cenv) = (compTurn e depth (.ref it) (.ref D) cenv).onRaise (fun x => do noteFrame x cenv; theTreesLotGoes x)) (ht : Emits e depth p target ifs elt (.ref it) (.ref D) cenv)
    (IT : IterC c it W target as side St) (J : Nat → List AV → Store → Prop) (hside : ∀ k l σ', J k l σ' → side σ') (hC : ¬ W C) (ρ₁ : AV → List (Str × AV)) (hρ : ∀ a ∈ as, SubL (ρ₁ a) ρ₀)
    (tgt : ∀ a ∈ as, ∀ σ', TgtC c ρ ρ₀ C cenv target a σ' (ρ₁ a))
    (turn : ∀ k a l σ', as[k]? = some a → J k l σ' → σ' D = some (.list l) → TsC c ρ (ρ₁ a) C cenv ifs σ' (fun ok σ₁ => if ok = true then EvC c ρ (ρ₁ a) C cenv elt σ₁ (fun b σ₂ => σ₂ D = some (.list l) ∧ l.length ≤ sizeLine ∧ J (k + 1) (l ++ [b]) (σ₂.set D (.list (l ++ [b])))) else σ₁ D = some (.list l) ∧ J (k + 1) l σ₁))
    (F : CF c ρ ρ₀ C A outer s σ) (G : Good c.w c.H none s₀ σ₀ s σ) (hb : ∀ b o, s₀.heap.get? b = some o → σ₀ b = none → ¬ W b ∧ b ≠ C) (O : Own c W outer s.heap σ) (st : St 0 s.heap) {l0 : List AV} (j0 : J 0 l0 σ) (sD : σ D = some (.list l0))
    (fin : ∀ s' σ' l, CF c ρ ρ₀ C A outer s' σ' → Good c.w c.H none s₀ σ₀ s' σ' → (∀ b o, s.heap.get? b = some o → σ b = none → ¬ W b → b ≠ C → s'.heap.get? b = some o) → J as.length l σ' → σ' D = some (.list l) → R (.ok .next) s') :
    codeAny (model pw c.w) A (.compLoop e depth (.ref it) (.ref D) cenv) R s := by
  let I : Nat → Shared → Prop := fun n s' => ∃ k σ' l, n + k = as.length + 1 ∧ k ≤ as.length ∧ CF c ρ ρ₀ C A outer s' σ' ∧ Good c.w c.H none s₀ σ₀ s' σ' ∧ Own c W outer s'.heap σ' ∧ St k s'.heap ∧ J k l σ' ∧ σ' D = some (.list l) ∧
    (∀ b o, s.heap.get? b = some o → σ b = none → ¬ W b → b ≠ C → s'.heap.get? b = some o ∧ σ' b = none)
  refine emit_loop hq hu hd ht I (fun n s' ⟨k, σ', l, hn, hkl, F', G', O', st', j', sD', kp⟩ => ?_) (as.length + 1) ⟨0, σ, l0, by (first | lia | omega), by (first | lia | omega), F, G, O, st, j0, sD, fun b o e n _ _ => ⟨e, n⟩⟩
  cases ha : as[k]? with
  | none =>
    refine IT.stop F'.F O' (hside _ _ _ j') st' ha fun h' tk kh => ?_
    have hk : k = as.length := by
      have h1 := List.getElem?_eq_none_iff.mp ha
      (first | lia | omega)
    subst hk
    have F2 := F'.change (tk := tk) O' hC kh
    refine fin _ σ' l F2 (G'.own F2.F.ok kh fun b o e n => (hb b o e n).1) (fun b o e n nw nc => kh b o nw (kp b o e n nw nc).1) j' sD'
  | some a =>
    have hmem := List.mem_of_getElem? ha
    have hlt := (List.getElem?_eq_some_iff.mp ha).1
    refine wpAny_mono (IT.next (Q := fun v s₂ => wpAny (model pw c.w) A (assign target cenv v) (fun _ s₃ => wpAny (model pw c.w) A (testsOf ifs cenv) (fun ok s₄ =>
            if ok = true then wpAny (model pw c.w) A (eval elt cenv) (fun x s₅ =>
              wpAny (model pw c.w) A (call (.builtin "list.append") [.ref D, x]) (fun _ s₆ => ∃ m, m < n ∧ I m s₆) (fun _ _ => False) s₅) (fun _ _ => False) s₄
            else ∃ m, m < n ∧ I m s₄) (fun _ _ => False) s₃) (fun _ _ => False) s₂) F'.F O' (hside _ _ _ j') st' ha fun v h' tk kh r st2 => ?_) (fun r s₁ ⟨v, er, hv⟩ => by subst er; exact hv) fun _ _ x => x
    have F2 := F'.change (tk := tk) O' hC kh
    have G2 := G'.own (tk := tk) F2.F.ok kh fun b o e n => (hb b o e n).1
    refine tgt a hmem σ' A outer _ v F2 r _ _ fun h3 tk3 F3 k3 => ?_
    have G3 := G2.own (W := fun b => b = C) (tk := tk3) F3.F.ok k3 fun b o e n => (hb b o e n).2
    have st3 : St (k + 1) h3 := IT.keeps st2 fun b o e q => k3 b o (fun z => by
      subst z
      rcases q with q | t
      · exact hC q
      · obtain ⟨m, hn', _⟩ := F2.ns; obtain ⟨o', e', t'⟩ := ns_notTup hn'; rw [e] at e'; cases e'; exact t' t) e
    refine wpAny_mono (turn k a l σ' ha j' sD' A outer _ F3) (fun ok s₄ ⟨σ₄, G4, h4⟩ => ?_) fun _ _ x => x
    have own4 : ∀ {sx : Shared} {σx : Store}, Good c.w c.H none { s' with heap := h3, toks := tk3 } σ' sx σx → Own c W outer sx.heap σx ∧ St (k + 1) sx.heap ∧ (∀ b o, s.heap.get? b = some o → σ b = none → ¬ W b → b ≠ C → sx.heap.get? b = some o ∧ σx b = none) := fun {sx σx} Gx => by
      have stx : St (k + 1) sx.heap := IT.keeps st3 fun b o e q => Gx.evo b o e (q.elim (O'.out b) (fun t => F3.F.ok.tuple e t)) (fun q => nomatch q)
      have hx : ∀ b, W b → ∃ o, h3.get? b = some o ∧ ¬ Tup o := IT.own st3
      refine ⟨⟨fun b o hw e => ?_, fun b hw => ?_, O'.base, O'.fr⟩, stx, fun b o e n nw nc => ?_⟩
      · obtain ⟨o', e', t'⟩ := IT.own stx b hw
        rw [e] at e'; cases e'; exact t'
      · obtain ⟨o', e', _⟩ := hx b hw
        exact Gx.old b o' e' (O'.out b hw)
      · obtain ⟨e1, n1⟩ := kp b o e n nw nc
        have e2 := k3 b o nc (kh b o nw e1)
        exact ⟨Gx.evo b o e2 n1 (fun q => nomatch q), Gx.old b o e2 n1⟩
    cases ok with
    | false =>
      rw [if_neg (by decide)] at h4 ⊢
      obtain ⟨sD4, j4⟩ := h4
      obtain ⟨O4, st4, kp4⟩ := own4 G4
      exact ⟨n - 1, by (first | lia | omega), k + 1, σ₄, l, by (first | lia | omega), by (first | lia | omega), (F3.good G4).sub (hρ a hmem), G3.trans G4 noneK, O4, st4, j4, sD4, kp4⟩
    | true =>
      rw [if_pos rfl] at h4 ⊢
      have F4 := F3.good G4
      refine wpAny_mono (h4 A outer _ F4) (fun x s₅ ⟨b, σ₅, G5, rx, sD5, hl, j5⟩ => ?_) fun _ _ x => x
      have F5 := F4.good G5
      obtain ⟨o, nn, vs, g, cl, dn, d, rs⟩ := cell_at F5.F sD5
      refine list_append_plainL (its := vs.toArray) ⟨o, nn, g, cl, dn, d⟩ (fun h' pl hs => ?_) (by rw [List.size_toArray, rs.length]; exact hl)
      have G6 : Good c.w c.H none s₅ σ₅ { s₅ with heap := h' } (σ₅.set D (.list (l ++ [b]))) := Good.app (s' := s₅) F5.F.ok sD5 rs rx pl hs
      have GG := (G4.trans G5 noneK).trans G6 noneK
      obtain ⟨O6, st6, kp6⟩ := own4 GG
      exact ⟨n - 1, by (first | lia | omega), k + 1, _, l ++ [b], by (first | lia | omega), by (first | lia | omega), (F5.good G6).sub (hρ a hmem), G3.trans GG noneK, O6, st6, j5, Store.set_same, kp6⟩
end
/-! ## A comprehension begins and ends -/
section
variable {c : Fc} {ρ : List (Str × AV)} {P : List (Value × AV)} {σ : Store} {X : Store → Prop}
theorem comp_block {elt target iter : Expr} {ifs : List Expr} {rest : List Comprehension} {scope : Scope} {pos : Pos} {cl : List (Str × Addr)} {it : Addr} {A : Around} {outer : List Env} {s₂ : Shared} {σ₂ : Store} {RR : Value → Addr → Result → Shared → Prop} {E : Value → Shared → Prop}
    (F₂ : InFr c ρ [] A outer s₂ σ₂) (hnc : ∀ x ∈ scope.names, x.2 ≠ .cell) (hk : scope.kind = .function)
    (self : ∀ s', (∀ b o, s₂.heap.get? b = some o → s'.heap.get? b = some o) → ∀ (Q : Value → Shared → Prop) (E : Value → Shared → Prop), Q (.ref it) s' → wpAny (model pw c.w) A (pyIter (.ref it)) Q E s')
    (loop : ∀ s₄ D C, D ≠ C → CF c ρ [] C A outer s₄ (σ₂.set D (.list [])) → Good c.w c.H none s₂ σ₂ s₄ (σ₂.set D (.list [])) → (∀ b o, s₂.heap.get? b = some o → s₄.heap.get? b = some o) → s₂.heap.get? D = none → s₂.heap.get? C = none → σ₂ D = none →
      codeAny (model pw c.w) A (.compLoop (.ListComp elt (⟨target, iter, ifs, 0⟩ :: rest) scope pos) 0 (.ref it) (.ref D) (compEnvC scope cl C c.env)) (RR (.ref D) C) s₄) :
    wpAny (model pw c.w) A (newList []) (fun acc s₃ => wpAny (model pw c.w) A (newFunctionEnv scope c.env.globals cl [] c.env.qual none .none (some c.env)) (fun cenv s₄ =>
      codeAny (model pw c.w) A (.compStart (.ListComp elt (⟨target, iter, ifs, 0⟩ :: rest) scope pos) 0 (.ref it) acc { cenv with scope := relabel scope c.env }) (RR acc cenv.locals) s₄) E s₃) E s₂ := by
  refine wpAny_newObj_type (wpAny_newFunctionEnv hnc (by intro y hy; simp at hy) (fun h₄ hns hsb => ?_) hk)
  have k1 : ∀ b o, s₂.heap.get? b = some o → (s₂.heap.push { cls := .type "list", data := .seq ([] : List Value).toArray }).get? b = some o := push_keep
  have e1 : (s₂.heap.push { cls := .type "list", data := .seq ([] : List Value).toArray }).objs.size = s₂.heap.objs.size + 1 := Heap.size_push ..
  have G1 : Good c.w c.H none s₂ σ₂ { s₂ with heap := s₂.heap.push { cls := .type "list", data := .seq ([] : List Value).toArray } } (σ₂.set s₂.heap.objs.size (.list [])) :=
    Good.alloc (s' := { s₂ with heap := s₂.heap.push { cls := .type "list", data := .seq ([] : List Value).toArray } }) (cl := .list []) F₂.ok ⟨rfl, rfl, rfl⟩ push_keep (get_end _) (none_at_end F₂.ok.stays) ⟨_, _, [], Heap.get?_push_size _ rfl, rfl, rfl, rfl, rfl⟩ (fun _ _ _ q => nomatch q)
  have F₃ := F₂.stepL G1
  have hC0 : (s₂.heap.push { cls := .type "list", data := .seq ([] : List Value).toArray }).get? (s₂.heap.push { cls := .type "list", data := .seq ([] : List Value).toArray }).objs.size = none := get_end _
  obtain ⟨H1, hH1⟩ : ∃ H1, H1 = s₂.heap.push { cls := .type "list", data := .seq ([] : List Value).toArray } := ⟨_, rfl⟩
  have k2 : ∀ b o, (s₂.heap.push { cls := .type "list", data := .seq ([] : List Value).toArray }).get? b = some o → h₄.get? b = some o := fun b o e => hsb.extBut b o (Nat.ne_of_lt (Heap.lt_size e)) (Heap.get?_push_of_some _ e)
  have G2 : Good c.w c.H none { s₂ with heap := s₂.heap.push { cls := .type "list", data := .seq ([] : List Value).toArray } } (σ₂.set s₂.heap.objs.size (.list [])) { s₂ with heap := h₄, toks := s₂.toks + ([] : List (Str × Value)).length } (σ₂.set s₂.heap.objs.size (.list [])) :=
    .keep F₃.ok ⟨rfl, rfl, rfl⟩ k2
  have F₄ := F₃.stepL G2
  have CF4 : CF c ρ [] (s₂.heap.push { cls := .type "list", data := .seq ([] : List Value).toArray }).objs.size A outer { s₂ with heap := h₄, toks := s₂.toks + ([] : List (Str × Value)).length } (σ₂.set s₂.heap.objs.size (.list [])) :=
    ⟨F₄, ⟨_, hns, fun x av e => by cases e⟩, F₃.ok.fresh, none_at_end F₃.ok.stays, fun e he L hL q => by
      obtain ⟨⟨o, eo⟩, _⟩ := F₃.frameThere he hL
      rw [q, hC0] at eo; cases eo⟩
  have CN : s₂.heap.get? (s₂.heap.push { cls := .type "list", data := .seq ([] : List Value).toArray }).objs.size = none := by
    cases e : s₂.heap.get? (s₂.heap.push { cls := .type "list", data := .seq ([] : List Value).toArray }).objs.size with
    | none => rfl
    | some o => rw [k1 _ _ e] at hC0; cases hC0
  have L := loop _ s₂.heap.objs.size (s₂.heap.push { cls := .type "list", data := .seq ([] : List Value).toArray }).objs.size (by rw [e1]; exact Nat.ne_of_lt (Nat.lt_succ_self _)) CF4 (G1.trans G2 noneK) (fun b o e => k2 b o (k1 b o e)) (get_end _) CN F₂.ok.fresh
  exact codeAny_compStart_list L (self _ (fun b o e => k2 b o (k1 b o e)) _ _ L)
/-- what the loop of a comprehension leaves -/
noncomputable def CompEnd (c : Fc) (ρ : List (Str × AV)) (A : Around) (outer : List Env) (s : Shared) (σ : Store) (Q : AV → Store → Prop) (acc : Value) (C : Addr) (r : Result) (s' : Shared) : Prop :=
  r = .ok .next ∧ ∃ D σ', acc = .ref D ∧ CF c ρ [] C A outer s' σ' ∧ Good c.w c.H none s σ s' σ' ∧ s.heap.get? C = none ∧ Q (.loc D) σ'
theorem E_lc {elt target iter : Expr} {ifs : List Expr} {rest : List Comprehension} {scope : Scope} {pos : Pos} {cl : List (Str × Addr)} {Q : AV → Store → Prop} (hs : ∀ x, foldedSetIterable iter c.env x = pure x)
    (hclos : closureFor scope c.env = pure cl) (hnc : ∀ x ∈ scope.names, x.2 ≠ .cell) (hk : scope.kind = .function) (hnames : ∀ x ∈ scope.names, x.2 = .local → scope.names.lookup x.1 = some .local)
    (h : ∀ A outer s, InFr c ρ P A outer s σ → wpAny (model pw c.w) A (eval iter c.env) (fun xv s₁ => wpAny (model pw c.w) A (pyIter xv) (fun itv s₂ => ∃ it σ₂, itv = .ref it ∧ InFr c ρ [] A outer s₂ σ₂ ∧
      (∀ s', (∀ b o, s₂.heap.get? b = some o → s'.heap.get? b = some o) → ∀ (Q : Value → Shared → Prop) (E : Value → Shared → Prop), Q (.ref it) s' → wpAny (model pw c.w) A (pyIter (.ref it)) Q E s') ∧
      (∀ s₄ D C, D ≠ C → CF c ρ [] C A outer s₄ (σ₂.set D (.list [])) → Good c.w c.H none s₂ σ₂ s₄ (σ₂.set D (.list [])) → (∀ b o, s₂.heap.get? b = some o → s₄.heap.get? b = some o) → s₂.heap.get? D = none → s₂.heap.get? C = none → σ₂ D = none →
        codeAny (model pw c.w) A (.compLoop (.ListComp elt (⟨target, iter, ifs, 0⟩ :: rest) scope pos) 0 (.ref it) (.ref D) (compEnvC scope cl C c.env)) (CompEnd c ρ A outer s σ Q (.ref D) C) s₄)) (ExcPost c s σ outer X) s₁) (ExcPost c s σ outer X) s) :
    Ev c ρ P (.ListComp elt (⟨target, iter, ifs, 0⟩ :: rest) scope pos) σ Q X := fun A outer s F => by
  rw [eval_ListComp]
  refine wpAny_comprehension_free (use := none) rfl hs hclos hk hnames (wpAny_mono (h A outer s F) (fun xv s₁ h₁ => wpAny_mono h₁ (fun itv s₂ ⟨it, σ₂, e, F₂, self, loop⟩ => ?_) fun _ _ e => e) fun _ _ e => e)
  subst e
  refine comp_block (RR := fun acc C => compPost (model pw c.w) A (ExcPost c s σ outer X) none (fun v s' => ∃ b σ', Good c.w c.H none s σ s' σ' ∧ VRel s'.heap v b ∧ Q b σ') acc C) F₂ hnc hk self fun s₄ D C hDC CF4 G4 k4 hD hC hσ => codeAny_mono (loop s₄ D C hDC CF4 G4 k4 hD hC hσ) fun r s' he => ?_
  obtain ⟨er, D', σ', ed, CF', G', hCs, q⟩ := he
  subst er
  cases ed
  obtain ⟨m, hn, _⟩ := CF'.ns
  refine ⟨m, hn, fun h' sb => ⟨.loc D, σ', ?_, rfl, q⟩⟩
  have F'' := CF'.F.change (tk := s'.toks) (fun b => b = C) (fun b o nb e => (sb.2 b nb).trans e) CF'.ownC.tup CF'.ownC.out CF'.ownC.base CF'.ownC.fr
  exact G'.own (W := fun b => b = C) (tk := s'.toks) F''.ok (fun b o nb e => (sb.2 b nb).trans e) fun b o e _ z => by subst z; rw [hCs] at e; cases e
/-- `x = [.. for ..]`, the comprehension's value stored at once -/
theorem S_lc {x : Str} {px spos : Pos} {elt target iter : Expr} {ifs : List Expr} {rest : List Comprehension} {scope : Scope} {pos : Pos} {cl : List (Str × Addr)} {Q : Fl → List (Str × AV) → Store → Prop} (hx : c.loc.contains x = true)
    (hsw : swapsWith (.ListComp elt (⟨target, iter, ifs, 0⟩ :: rest) scope pos) (some (.Name x px)) spos.line c.env = pure true) (hs : ∀ x, foldedSetIterable iter c.env x = pure x)
    (hclos : closureFor scope c.env = pure cl) (hnc : ∀ x ∈ scope.names, x.2 ≠ .cell) (hk : scope.kind = .function) (hnames : ∀ x ∈ scope.names, x.2 = .local → scope.names.lookup x.1 = some .local)
    (h : ∀ A outer s, InFr c ρ [] A outer s σ → wpAny (model pw c.w) A (eval iter c.env) (fun xv s₁ => wpAny (model pw c.w) A (pyIter xv) (fun itv s₂ => ∃ it σ₂, itv = .ref it ∧ InFr c ρ [] A outer s₂ σ₂ ∧
      (∀ s', (∀ b o, s₂.heap.get? b = some o → s'.heap.get? b = some o) → ∀ (Q : Value → Shared → Prop) (E : Value → Shared → Prop), Q (.ref it) s' → wpAny (model pw c.w) A (pyIter (.ref it)) Q E s') ∧
      (∀ s₄ D C, D ≠ C → CF c ρ [] C A outer s₄ (σ₂.set D (.list [])) → Good c.w c.H none s₂ σ₂ s₄ (σ₂.set D (.list [])) → (∀ b o, s₂.heap.get? b = some o → s₄.heap.get? b = some o) → s₂.heap.get? D = none → s₂.heap.get? C = none → σ₂ D = none →
        codeAny (model pw c.w) A (.compLoop (.ListComp elt (⟨target, iter, ifs, 0⟩ :: rest) scope pos) 0 (.ref it) (.ref D) (compEnvC scope cl C c.env)) (CompEnd c ρ A outer s σ (fun a σ' => Q .next (upd ρ x a) σ') (.ref D) C) s₄)) (ExcPost c s σ outer X) s₁) (ExcPost c s σ outer X) s) :
    J1 c ρ (.Assign [.Name x px] (.ListComp elt (⟨target, iter, ifs, 0⟩ :: rest) scope pos) spos) σ Q X := fun A outer s F => by
  show wpAny _ _ (exec _ c.env) _ _ s
  rw [exec_Assign_Name_used x px _ spos hsw]
  refine wpAny_bind (wpAny_standAt (wpAny_bind ?_))
  show wpAny _ _ (comprehension _ scope c.env (firstIterPos _ pos) (newList []) _ (firstIter _ c.env) (some (assign (.Name x px) c.env)) >>= fun _ => pure ()) _ _ s
  refine wpAny_bind ?_
  refine wpAny_comprehension_free (use := some (assign (.Name x px) c.env)) rfl hs hclos hk hnames (wpAny_mono (h A outer s F) (fun xv s₁ h₁ => wpAny_mono h₁ (fun itv s₂ ⟨it, σ₂, e, F₂, self, loop⟩ => ?_) fun _ _ e => SExc.of e) fun _ _ e => SExc.of e)
  subst e
  refine comp_block (RR := fun acc C => compPost (model pw c.w) A (SExc c s σ outer X) (some (assign (.Name x px) c.env)) (fun _ s' => wpAny (model pw c.w) A (pure () : Sem Unit) (fun _ s'' => wpAny (model pw c.w) A (pure .next : Sem Flow) (SPost c A outer s σ Q) (SExc c s σ outer X) s'') (SExc c s σ outer X) s') acc C) F₂ hnc hk self fun s₄ D C hDC CF4 G4 k4 hD hC hσ => codeAny_mono (loop s₄ D C hDC CF4 G4 k4 hD hC hσ) fun r s' he => ?_
  obtain ⟨er, D', σ', ed, CF', G', hCs, q⟩ := he
  subst er
  cases ed
  obtain ⟨m, hn, _⟩ := CF'.ns
  have hCL : C ≠ c.env.locals := fun z => CF'.fr _ (.head _) _ CF'.F.frame z.symm
  refine wpAny_assign_Name (storeName_ hx CF'.F (a := .loc D) rfl fun s'' F'' G'' => ⟨m, hn.at fun o e => G''.evo C o e CF'.out (fun z => hCL (Option.some.inj z).symm), fun h' sb => wpAny_pure (wpAny_pure ?_)⟩)
  have ow : Own c (fun b => b = C) outer s''.heap σ' := by
    obtain ⟨o, e, t⟩ := ns_notTup hn
    have e2 := G''.evo C o e CF'.out (fun z => hCL (Option.some.inj z).symm)
    exact ⟨fun b o' z e' => by subst z; rw [e2] at e'; cases e'; exact t, CF'.ownC.out, CF'.ownC.base, CF'.ownC.fr⟩
  have F3 := F''.change (tk := s''.toks) (fun b => b = C) (fun b o nb e => (sb.2 b nb).trans e) ow.tup ow.out ow.base ow.fr
  have GG := G'.up.trans G'' (frameK CF'.F)
  refine ⟨.next, _, σ', ⟨GG.rest, F3.ok, fun b o e n l => ?_, GG.old⟩, F3, trivial, q⟩
  exact (sb.2 b fun z => by subst z; rw [hCs] at e; cases e).trans (GG.evo b o e n l)
end
/-! ## Iterators of lists, ranges, enumerations -/
theorem iterC_list {c : Fc} {it t : Addr} {as : List AV} {target : Expr} (hown : ∀ (A : Around) (v : Value) (s' : Shared) (k : Nat), s'.heap.IsListIter it t k → ∀ (Q' : Unit → Shared → Prop) (E' : Value → Shared → Prop), Q' () s' → wpAny (model pw c.w) A (letOwnedTupleGo target (.ref it) v) Q' E' s') :
    IterC c it (fun b => b = it) target as (fun σ => σ t = some (.list as)) (fun k h => h.IsListIter it t k) where
  next := fun {A E ρ outer s σ k a Q} F O sd hit ha q => by
    obtain ⟨o, n, vs, g, cl, _, d, rs⟩ := cell_at F sd
    have T : s.heap.IsList t vs.toArray := ⟨o, g, cl, n, d⟩
    obtain ⟨v, ev, r⟩ := rs.get ha
    refine wpAny_pyNext_list_item hit T (x := v) (by simpa using ev) fun h' hit' hs => ?_
    have k1 : ∀ b o, ¬ b = it → s.heap.get? b = some o → h'.get? b = some o := fun b o nb e => (hs.2 b nb).trans e
    exact ⟨v, rfl, hown A v { s with heap := h' } (k + 1) hit' _ _ (q v h' s.toks k1 (r.mono (fun b o e tt => k1 b o (fun z => O.tup b o z e tt) e) a) hit')⟩
  stop := fun {A E ρ outer s σ k Q} F O sd hit ha q => by
    obtain ⟨o, n, vs, g, cl, _, d, rs⟩ := cell_at F sd
    have T : s.heap.IsList t vs.toArray := ⟨o, g, cl, n, d⟩
    refine wpAny_pyNext_list_end F.handled hit T ?_ fun h' he => q h' s.toks (fun b o nb e => he b o nb e)
    rw [List.getElem?_eq_none_iff] at ha
    rw [Array.getElem?_eq_none]
    rw [List.size_toArray, rs.length]
    exact ha
  keeps := fun ⟨o, e, cl, d⟩ k => ⟨o, k _ _ e (.inl rfl), cl, d⟩
  own := fun ⟨o, e, cl, d⟩ b hb => by subst hb; exact ⟨o, e, fun t => type_ne (by decide) (t.1.symm.trans cl)⟩
theorem iterC_range {c : Fc} {it : Addr} {n : Nat} {x : Str} {px : Pos} : IterC c it (fun b => b = it) (.Name x px) ((List.range n).map fun k => AV.int (k : Nat)) (fun _ => True) (fun k h => IsRangeIter h it (k : Nat) ((n : Int) - (k : Nat)) 1) where
  next := fun {A E ρ outer s σ k a Q} F O _ hit ha q => by
    rw [List.getElem?_map] at ha
    obtain ⟨j, hj, rfl⟩ := Option.map_eq_some_iff.mp ha
    have hk : k < n := by have := (List.getElem?_eq_some_iff.mp hj).1; simpa using this
    rw [List.getElem?_range hk] at hj
    cases hj
    refine wpAny_pyNext_range_item hit (by (first | lia | omega)) fun h' hit' hs => ⟨_, rfl, wpAny_pure (q (.int (k : Nat) s.toks) h' (s.toks + 1) (fun b o nb e => (hs.2 b nb).trans e) ⟨_, rfl⟩ ?_)⟩
    have e1 : ((k + 1 : Nat) : Int) = (k : Int) + 1 := by (first | lia | omega)
    have e2 : (n : Int) - ((k + 1 : Nat) : Int) = (n : Int) - (k : Int) - 1 := by (first | lia | omega)
    rw [e2, e1]; exact hit'
  stop := fun {A E ρ outer s σ k Q} F O _ hit ha q => by
    rw [List.getElem?_eq_none_iff, List.length_map, List.length_range] at ha
    exact wpAny_pyNext_range_end F.handled hit (by (first | lia | omega)) fun h' he => q h' s.toks (fun b o nb e => he b o nb e)
  keeps := fun e k => k _ _ e (.inl rfl)
  own := fun e b hb => by subst hb; exact ⟨_, e, fun t => type_ne (by decide) t.1⟩
noncomputable def enumAV (as : List AV) : List AV := as.zipIdx.map fun p => .tup [.int (p.2 : Nat), p.1]
theorem iterC_enum {c : Fc} {e it t : Addr} {as : List AV} {elts : List Expr} {kk : Nat} {tp : Pos} (hne : e ≠ it) : IterC c e (fun b => b = e ∨ b = it) (.Tuple elts kk tp) (enumAV as) (fun σ => σ t = some (.list as)) (fun k h => ∃ old, IsEnum h e it (k : Nat) old ∧ h.IsListIter it t k) where
  next := fun {A E ρ outer s σ k a Q} F O sd ⟨old, he, hit⟩ ha q => by
    obtain ⟨o, n, vs, g, cl, _, d, rs⟩ := cell_at F sd
    have T : s.heap.IsList t vs.toArray := ⟨o, g, cl, n, d⟩
    unfold enumAV at ha
    rw [List.getElem?_map, List.getElem?_zipIdx, Option.map_map] at ha
    obtain ⟨b, hb, rfl⟩ := Option.map_eq_some_iff.mp ha
    obtain ⟨v, ev, r⟩ := rs.get hb
    refine wpAny_pyNext_enum_item he hit T (x := v) (by simpa using ev) hne fun h₁ heo hit₁ ht₁ hz₁ hk₁ => ⟨_, rfl, ?_⟩
    have hsz : s.heap.objs.size ≠ e := fun z => by have := Heap.lt_size he; rw [← z] at this; exact Nat.lt_irrefl _ this
    refine wpAny_letOwnedTupleGo_enum heo fun h₂ he₂ hs₂ => ?_
    have k1 : ∀ b o, ¬ (b = e ∨ b = it) → s.heap.get? b = some o → h₂.get? b = some o := fun b o nb ee => (hs₂.2 b fun z => nb (.inl z)).trans (hk₁ b o (fun z => nb (.inl z)) (fun z => nb (.inr z)) ee)
    have k2 : ∀ b o, s.heap.get? b = some o → Tup o → h₂.get? b = some o := fun b o ee tt => k1 b o (fun z => O.tup b o z ee tt) ee
    refine q _ h₂ (s.toks + 1) k1 ⟨_, _, _, [.int k s.toks, v], rfl, (hs₂.2 _ hsz).trans ht₁, rfl, rfl, _, _, rfl, ⟨s.toks, ?_⟩, v, [], rfl, r.mono k2 b, rfl⟩ ⟨v, ?_, hit₁.extBut hs₂.extBut (Ne.symm hne)⟩
    · simp
    · have : ((k + 1 : Nat) : Int) = (k : Int) + 1 := by (first | lia | omega)
      rw [this]; exact he₂
  stop := fun {A E ρ outer s σ k Q} F O sd ⟨old, he, hit⟩ ha q => by
    obtain ⟨o, n, vs, g, cl, _, d, rs⟩ := cell_at F sd
    have T : s.heap.IsList t vs.toArray := ⟨o, g, cl, n, d⟩
    refine wpAny_pyNext_enum_end F.handled he hit T ?_ fun h' hb => q h' s.toks (fun b o nb ee => hb b o (fun z => nb (.inr z)) ee)
    unfold enumAV at ha
    rw [List.getElem?_eq_none_iff, List.length_map, List.length_zipIdx] at ha
    rw [Array.getElem?_eq_none]
    rw [List.size_toArray, rs.length]
    exact ha
  keeps := fun ⟨old, he, o, ee, cl, d⟩ k => ⟨old, k _ _ he (.inl (.inl rfl)), o, k _ _ ee (.inl (.inr rfl)), cl, d⟩
  own := fun ⟨old, he, o, ee, cl, d⟩ b hb => by
    rcases hb with rfl | rfl
    · exact ⟨_, he, fun t => type_ne (by decide) t.1⟩
    · exact ⟨o, ee, fun t => type_ne (by decide) (t.1.symm.trans cl)⟩

/-! # Text WCB -/
/-! # A dict of a list of pairs -/
section
variable {prog : Program} {w : World} {A : Around} {E : Value → Shared → Prop} {s : Shared}
set_option maxRecDepth 100000 in
set_option maxHeartbeats 1000000 in
theorem no_keys {a : Addr} {o : Obj} {xs : Array Value} {k : Nat} {Q : Option Value → Shared → Prop} (hx : s.heap.get? a = some o) (hc : o.cls = .type "list") (hdat : o.data = .seq xs k) (hd : o.dict = none) (hA : A.handled = none)
    (h : ∀ h' tk, (∀ b o, s.heap.get? b = some o → h'.get? b = some o) → Q none { s with heap := h', toks := tk }) : wpAny (model prog w) A (getAttr? (.ref a) "keys") Q E s := by
  have hmiss : typeLookup (.type "list") "keys" = pure none := by rw [typeLookup_type, builtinLookup_eq_fast]; kernel_rfl
  obtain ⟨c, dct, dat, sl⟩ := o
  simp only at hc hdat hd
  subst hc hdat hd
  obtain ⟨hp, g, d, tk, os⟩ := s
  have hT : ∀ tk', (⟨hp, g, d, tk', os⟩ : Shared).TypeIs (.ref a) "list" := fun _ => ⟨_, hx, rfl⟩
  have f1 := sub_AttributeError
  have f3 := F.slot_list_getattribute.lookup
  have f4 := F.slot_list_getattribute.bind (.ref a)
  have f5 := am_list_getattr_none
  unfold getAttr?
  refine wpAny_bind (wpAny_mkText ?_)
  unfold getAttrBy?
  refine wpAny_bind (wpAny_attempt ?_)
  unfold getAttrBy
  repeat (any_goals (first | assumption | exact hT _ | ((with_reducible show wpAny _ _ (call (Value.builtin "list.__getattribute__") _ _) _ _ _); refine call_meets F.slot_list_getattribute (hT _) am_entry_list_getattribute (F.args_list_getattribute_2 _ _) (meets_getattribute_miss_list a xs k sl "keys" _ hmiss (by decide) (by decide)) ⟨hx, hA, fun h' tk' e hx' => ?_⟩) | wp_step))
  obtain ⟨t', u', he⟩ := hx'.there
  show wpAny _ _ (getattributeRaised _ _ _ _ _ _ _) _ _ _
  unfold getattributeRaised
  repeat (any_goals (first | assumption | wp_step))
  exact h _ _ hx'.keeps
end
section
variable {w : World} {A : Around} {R : Result → Shared → Prop}
theorem entry_dict_loop : entryFor table "dict.update.loop" = some Builtin.«dict.update.loop» := entryFor_of_tree (by kernel_rfl)
theorem pairs_loop {d it D : Addr} {items : Array Value} (hA : A.handled = none) : ∀ (l : List (Str × Value)) (i : Nat) (kvs : List (Str × Value)) (s : Shared), s.heap.IsList D items → s.heap.IsListIter it D i → s.heap.DictOf (strKind pw w) d kvs → it ≠ d → D ≠ it → D ≠ d →
    (∀ j p, l[j]? = some p → ∃ T t, items[i + j]? = some (.ref T) ∧ IsTup s.heap T #[.str p.1 t, p.2]) → items.size = i + l.length → ((kvs ++ l).map (·.1)).Nodup → kvs.length + l.length ≤ 1000 →
    (∀ h' tk, h'.DictOf (strKind pw w) d (kvs ++ l) → (∀ b o, b ≠ it → b ≠ d → s.heap.get? b = some o → h'.get? b = some o) → R (.ok (.ret .none)) { s with heap := h', toks := tk }) →
    codeAny (model pw w) A (.builtin "dict.update.loop" ⟨[.ref d, .ref it, rawInt i, .none], []⟩) R s
  | [], i, kvs, s, T, hit, hd, hne, n1, n2, hp, hsz, hn, hz, q => by
    refine codeAny_builtin entry_dict_loop ?_
    show wpAny _ _ (pyNext (.ref it) >>= _) _ _ _
    refine wpAny_bind (wpAny_pyNext_list_end hA hit T (by rw [Array.getElem?_eq_none]; simp at hsz; (first | lia | omega)) fun h1 he => ?_)
    refine wpAny_bind (wpAny_pure (wpAny_pure ?_))
    rw [List.append_nil] at q
    exact q h1 s.toks (hd.extBut he (Ne.symm hne)) fun b o nb _ e => he b o nb e
  | p :: l, i, kvs, s, T, hit, hd, hne, n1, n2, hp, hsz, hn, hz, q => by
    obtain ⟨Tp, t, hx, tup⟩ := hp 0 p rfl
    refine codeAny_builtin entry_dict_loop ?_
    show wpAny _ _ (pyNext (.ref it) >>= _) _ _ _
    refine wpAny_bind (wpAny_pyNext_list_item hit T hx fun h1 hit1 hs1 => ?_)
    obtain ⟨ot, eot, ct, nt, dt⟩ := tup
    have hz' : kvs.length + (l.length + 1) ≤ 1000 := hz
    have hsz' : items.size = i + (l.length + 1) := hsz
    have ne1 : Tp ≠ it := fun z => by
      obtain ⟨o', e', c', _⟩ := hit
      rw [← z, eot] at e'; cases e'
      exact type_ne (by decide) (ct.symm.trans c')
    have ne2 : Tp ≠ d := fun z => by
      obtain ⟨o', e', _, _, _, x, _⟩ := Heap.dictOf_iff.mp hd
      rw [← z, eot] at e'; cases e'
      rw [dt] at x; cases x
    refine wpAny_bind (wpAny_holding (wpAny_bind (wpAny_tryCatch ?_)))
    unfold Builtin.Dict.pairItems
    refine wpAny_bind (wpAny_typeOf (T := "tuple") ⟨ot, (hs1.2 _ ne1).trans eot, ct⟩ ?_)
    rw [if_pos (by decide)]
    refine wpAny_bind (wpAny_seqItems ((hs1.2 _ ne1).trans eot) dt (wpAny_pure ?_))
    have hd1 : h1.DictOf (strKind pw w) d kvs := hd.extBut hs1.extBut (Ne.symm hne)
    refine wpAny_holding (wpAny_dictSet_pairs (k := p.1) (strKind_is pw w p.1 t) hd1 (fun h2 hd2 hs2 => ?_) (by rw [sizeLine_eq]; (first | lia | omega)))
    have est : stored kvs p.1 p.2 = kvs ++ [p] := by
      unfold stored
      rw [if_neg]
      intro h
      obtain ⟨x, hx1, hx2⟩ := List.any_eq_true.mp h
      rw [List.map_append, List.nodup_append] at hn
      exact hn.2.2 x.1 (List.mem_map_of_mem hx1) p.1 (by simp) (by simpa using hx2)
    rw [est] at hd2
    have k2 : ∀ b o, b ≠ it → b ≠ d → s.heap.get? b = some o → h2.get? b = some o := fun b o n1 n2 e => (hs2.2 b n2).trans ((hs1.2 b n1).trans e)
    have e1 : ((i : Int) + 1) = ((i + 1 : Nat) : Int) := by (first | lia | omega)
    refine wpAny_pure ⟨Code.quiet_builtin _ (by decide +kernel), ?_⟩
    rw [e1]
    refine pairs_loop (D := D) (items := items) hA l (i + 1) (kvs ++ [p]) { s with heap := h2, toks := s.toks + 1 } ?_ ?_ hd2 hne n1 n2 (fun j p' hj => ?_) (by (first | lia | omega)) (by rw [List.append_assoc]; exact hn) (by rw [List.length_append, List.length_singleton]; (first | lia | omega)) fun h' tk hd' kk => ?_
    · obtain ⟨o', e', c', n', d'⟩ := T
      exact ⟨o', k2 _ _ n1 n2 e', c', n', d'⟩
    · exact hit1.extBut hs2.extBut hne
    · obtain ⟨T', t', hx', o', e', c', n', d'⟩ := hp (j + 1) p' (by simpa using hj)
      refine ⟨T', t', by rw [← hx']; congr 1; (first | lia | omega), o', k2 _ _ (fun z => ?_) (fun z => ?_) e', c', n', d'⟩
      · obtain ⟨o2, e2, c2, _⟩ := hit
        rw [← z, e'] at e2; cases e2
        exact type_ne (by decide) (c'.symm.trans c2)
      · obtain ⟨o2, e2, _, _, _, x2, _⟩ := Heap.dictOf_iff.mp hd
        rw [← z, e'] at e2; cases e2
        rw [d'] at x2; cases x2
    · rw [List.append_assoc] at hd'
      exact q h' tk hd' fun b o n1 n2 e => kk b o n1 n2 (k2 b o n1 n2 e)
end
section
variable {w : World} {A : Around} {E : Value → Shared → Prop} {s : Shared}
/-- `dict(l)`, `l` a list of pairs with texts as keys, no key twice -/
theorem call_dict_pairs {D : Addr} {o : Obj} {items : Array Value} {n : Nat} {l : List (Str × Value)} {Q : Value → Shared → Prop} (hA : A.handled = none) (hD : s.heap.get? D = some o) (hc : o.cls = .type "list") (hd : o.dict = none) (hdat : o.data = .seq items n)
    (hp : ∀ (j : Nat) (p : Str × Value), l[j]? = some p → ∃ T t, items[j]? = some (.ref T) ∧ IsTup s.heap T #[.str p.1 t, p.2]) (hsz : items.size = l.length) (hn : (l.map (·.1)).Nodup) (hz : l.length ≤ 1000)
    (q : ∀ h' tk, (∀ b o, s.heap.get? b = some o → h'.get? b = some o) → h'.DictOf (strKind pw w) s.heap.objs.size l → Q (.ref s.heap.objs.size) { s with heap := h', toks := tk }) :
    wpAny (model pw w) A (call (.type "dict") [.ref D]) Q E s := by
  refine callType_codes (Q₁ := fun obj s₁ => obj = .ref s.heap.objs.size ∧ s₁ = { s with heap := s.heap.push { cls := .type "dict", data := .dict #[] } }) F.kt_called_dict (F.kt_typeCall_dict_1 _) F.entry_dict_init (kt_code_dict_new _ ⟨rfl, rfl⟩) ?_
  rintro obj s₁ ⟨rfl, rfl⟩
  have hnew : (s.heap.push { cls := .type "dict", data := .dict #[] }).DictOf (strKind pw w) s.heap.objs.size [] := Heap.DictOf.new s.heap
  have hD1 : (s.heap.push { cls := .type "dict", data := .dict #[] }).get? D = some o := push_keep _ _ hD
  refine ⟨hnew.typeIs, F.args_dict_init_2 _ _, ?_⟩
  unfold Builtin.«dict.__init__»
  refine wpAny_bind ?_
  unfold Builtin.Dict.selfAndRest
  refine wpAny_bind (wpAny_notOrdered_dict hnew.typeIs ?_)
  show wpAny _ _ (pure (s.heap.objs.size, [Value.ref D])) _ _ _
  refine wpAny_pure ?_
  show wpAny _ _ (Builtin.Dict.updateFrom "dict.__init__" s.heap.objs.size (.ref D) [] .none) _ _ _
  unfold Builtin.Dict.updateFrom
  refine wpAny_bind (wpAny_typeOf (T := "list") ⟨o, hD1, hc⟩ ?_)
  rw [if_pos (by decide)]
  refine wpAny_bind (no_keys hD1 hc hdat hd hA fun h2 tk2 k2 => ?_)
  rw [if_pos (by rfl)]
  refine wpAny_bind (wpAny_rule ?_)
  have hD2 : h2.get? D = some o := k2 _ _ hD1
  have T2 : h2.IsList D items := ⟨o, hD2, hc, n, hdat⟩
  refine wpAny_bind (wpAny_pyIter_list T2 ?_)
  refine wpAny_pure ⟨Code.quiet_builtin _ (by decide +kernel), ?_⟩
  have k3 : ∀ b o, h2.get? b = some o → (h2.push { cls := .type "list_iterator", data := .fields #[.ref D, .int 0 0] }).get? b = some o := push_keep
  have lt2 : ∀ b o, h2.get? b = some o → b ≠ h2.objs.size := fun b o e => Nat.ne_of_lt (Heap.lt_size e)
  have gd : ∃ od, (s.heap.push { cls := .type "dict", data := .dict #[] }).get? s.heap.objs.size = some od := ⟨_, Heap.get?_push_size _ rfl⟩
  obtain ⟨od, gd⟩ := gd
  refine pairs_loop (A := A.in1) (D := D) (items := items) hA l 0 [] ⟨h2.push { cls := .type "list_iterator", data := .fields #[.ref D, .int 0 0] }, s.gens, s.drawn, tk2, s.os⟩ (T2.push _) ⟨_, Heap.get?_push_size _ rfl, rfl, rfl⟩ ((hnew.keep k2).keep k3) (Ne.symm (lt2 _ _ (k2 _ _ gd))) (lt2 _ _ hD2) (Nat.ne_of_lt (Heap.lt_size hD)) (fun j p hj => ?_) (by (first | lia | omega)) hn (by simp; (first | lia | omega)) fun h' tk hd' kk => ?_
  · obtain ⟨T, t, hx, o', e', c', n', d'⟩ := hp j p hj
    exact ⟨T, t, by rw [Nat.zero_add]; exact hx, o', k3 _ _ (k2 _ _ (push_keep _ _ e')), c', n', d'⟩
  · refine ⟨rfl, q h' tk (fun b o e => kk b o (lt2 _ _ (k2 _ _ (push_keep _ _ e))) (Nat.ne_of_lt (Heap.lt_size e)) (k3 _ _ (k2 _ _ (push_keep _ _ e)))) hd'⟩
end

/-! # Text WLA -/
/-! # Parting at the least operator: what the law computes -/
noncomputable def leastOf : List Int → Int
  | [] => 0
  | a :: r => match r with
    | [] => a
    | _ :: _ => min a (leastOf r)
noncomputable def placesOf (ls : List Int) (m : Int) : List Nat := (List.range ls.length).filter fun i => ls[i]? == some m
noncomputable def atOf (ls : List Int) : Nat := if leastOf ls = 0 then (placesOf ls (leastOf ls)).headD 0 else (placesOf ls (leastOf ls)).getLastD 0
noncomputable def opT (op : Str) (l r : AV) : AV := if op == "=" || op == "+=" then assT op l r else binT l op r
noncomputable def both (op : Str) : Option AV → Option AV → Option AV
  | some l, some r => some (opT op l r)
  | _, _ => none
noncomputable def parted : Nat → List AV → List Str → Option AV
  | 0, _, _ => none
  | f + 1, trees, ops =>
    if ops.isEmpty then trees.head?
    else if leastOf (ops.map levS) = 3 ∧ 1 < (placesOf (ops.map levS) 3).length then none
    else both (ops.getD (atOf (ops.map levS)) "") (parted f (trees.take (atOf (ops.map levS) + 1)) (ops.take (atOf (ops.map levS)))) (parted f (trees.drop (atOf (ops.map levS) + 1)) (ops.drop (atOf (ops.map levS) + 1)))
theorem leastOf_le : ∀ {ls : List Int} {x : Int}, x ∈ ls → leastOf ls ≤ x
  | [a], x, h => by cases List.mem_singleton.mp h; exact Int.le_refl _
  | a :: b :: r, x, h => by
    have e : leastOf (a :: b :: r) = min a (leastOf (b :: r)) := rfl
    rw [e]
    rcases List.mem_cons.mp h with rfl | h
    · exact Int.min_le_left _ _
    · have := leastOf_le h; (first | lia | omega)
theorem leastOf_mem : ∀ {ls : List Int}, ls ≠ [] → leastOf ls ∈ ls
  | [], h => absurd rfl h
  | [a], _ => .head _
  | a :: b :: r, _ => by
    have e : leastOf (a :: b :: r) = min a (leastOf (b :: r)) := rfl
    have ih := leastOf_mem (ls := b :: r) (by simp)
    rw [e]
    by_cases h : a ≤ leastOf (b :: r)
    · rw [Int.min_eq_left h]; exact .head _
    · rw [Int.min_eq_right (by (first | lia | omega))]; exact .tail _ ih
theorem mem_places {ls : List Int} {m : Int} {i : Nat} : i ∈ placesOf ls m ↔ ls[i]? = some m := by
  unfold placesOf
  rw [List.mem_filter, List.mem_range]
  constructor
  · rintro ⟨_, h⟩; exact beq_iff_eq.mp h
  · intro h; exact ⟨(List.getElem?_eq_some_iff.mp h).1, beq_iff_eq.mpr h⟩
theorem places_append (x y : List Int) (m : Int) : placesOf (x ++ y) m = placesOf x m ++ (placesOf y m).map (x.length + ·) := by
  unfold placesOf
  rw [List.length_append, List.range_add, List.filter_append, List.filter_map]
  congr 1
  · refine List.filter_congr fun i hi => ?_
    rw [List.getElem?_append_left (by simpa using hi)]
  · congr 1
    refine List.filter_congr fun i hi => ?_
    show ((x ++ y)[x.length + i]? == some m) = _
    rw [List.getElem?_append_right (by (first | lia | omega))]
    congr 2; (first | lia | omega)
theorem places_none {ls : List Int} {m : Int} (h : ∀ x ∈ ls, x ≠ m) : placesOf ls m = [] := by
  rw [List.eq_nil_iff_forall_not_mem]
  intro i hi
  exact h m (List.mem_of_getElem? (mem_places.mp hi)) rfl
theorem places_one (m : Int) : placesOf [m] m = [0] := by
  show List.filter _ [0] = [0]
  simp
theorem places_mid (x y : List Int) (m : Int) : placesOf (x ++ m :: y) m = placesOf x m ++ (x.length :: (placesOf y m).map (x.length + 1 + ·)) := by
  have e : x ++ m :: y = (x ++ [m]) ++ y := by simp
  rw [e, places_append, places_append, places_one]
  simp
theorem least_mid {x y : List Int} {m : Int} (h1 : ∀ a ∈ x, m ≤ a) (h2 : ∀ a ∈ y, m ≤ a) : leastOf (x ++ m :: y) = m := by
  have h := leastOf_le (ls := x ++ m :: y) (x := m) (by simp)
  have h3 := leastOf_mem (ls := x ++ m :: y) (by simp)
  rcases List.mem_append.mp h3 with h4 | h4
  · have := h1 _ h4; (first | lia | omega)
  · rcases List.mem_cons.mp h4 with h5 | h5
    · exact h5
    · have := h2 _ h5; (first | lia | omega)
theorem at_last {x y : List Int} {m : Int} (h1 : ∀ a ∈ x, m ≤ a) (h2 : ∀ a ∈ y, m < a) (h0 : m ≠ 0) : atOf (x ++ m :: y) = x.length := by
  unfold atOf
  rw [least_mid h1 (fun a ha => Int.le_of_lt (h2 a ha)), if_neg h0, places_mid, places_none fun a ha => Int.ne_of_gt (h2 a ha)]
  simp
theorem at_first {x y : List Int} (h1 : ∀ a ∈ x, 0 < a) (h2 : ∀ a ∈ y, 0 ≤ a) : atOf (x ++ 0 :: y) = x.length := by
  unfold atOf
  rw [least_mid (fun a ha => Int.le_of_lt (h1 a ha)) h2, if_pos rfl, places_mid, places_none fun a ha => Int.ne_of_gt (h1 a ha)]
  simp
theorem at_lt {ls : List Int} (h : ls ≠ []) : atOf ls < ls.length ∧ ls[atOf ls]? = some (leastOf ls) := by
  have hm : placesOf ls (leastOf ls) ≠ [] := fun e => by
    obtain ⟨i, hi, ei⟩ := List.mem_iff_getElem.mp (leastOf_mem h)
    have : i ∈ placesOf ls (leastOf ls) := mem_places.mpr (by rw [List.getElem?_eq_getElem hi, ei])
    rw [e] at this; cases this
  have : atOf ls ∈ placesOf ls (leastOf ls) := by
    unfold atOf
    split
    · cases q : placesOf ls (leastOf ls) with
      | nil => exact absurd q hm
      | cons a r => exact .head _
    · rw [List.getLastD_eq_getLast?, List.getLast?_eq_some_getLast hm]
      exact List.getLast_mem hm
  have e := mem_places.mp this
  exact ⟨(List.getElem?_eq_some_iff.mp e).1, e⟩
/-! ## In terms of items -/
noncomputable def lv (it : Item) : Int := levS it.op
noncomputable def tr (it : Item) : AV := it.o.r.getD .none
noncomputable abbrev prt (f : Nat) (t0 : AV) (l : List Item) : Option AV := parted f (t0 :: l.map tr) (l.map (·.op))
theorem lvs (l : List Item) : (l.map (·.op)).map levS = l.map lv := by rw [List.map_map]; rfl
theorem split_at {l : List Item} {n : Nat} (h : n < l.length) : l = l.take n ++ l[n] :: l.drop (n + 1) := by
  rw [List.getElem_cons_drop, List.take_append_drop]
theorem prt_mid (f : Nat) (t0 : AV) (a b : List Item) (it : Item) (h : atOf ((a ++ it :: b).map lv) = a.length) (h3 : ¬ (leastOf ((a ++ it :: b).map lv) = 3 ∧ 1 < (placesOf ((a ++ it :: b).map lv) 3).length)) :
    prt (f + 1) t0 (a ++ it :: b) = both it.op (prt f t0 a) (prt f (tr it) b) := by
  unfold prt
  conv => lhs; unfold parted
  rw [lvs, if_neg h3, h, if_neg (by simp)]
  congr 1
  · simp [List.getD_eq_getElem?_getD]
  · congr 1
    · rw [List.map_append, List.take_succ_cons, List.take_left' (by simp)]
    · rw [List.map_append, List.take_left' (by simp)]
  · congr 1
    · rw [List.map_append, List.drop_succ_cons, List.drop_left' (by simp)]; rfl
    · rw [List.map_append, List.map_cons]
      have : a.length + 1 = (a.map (·.op)).length + 1 := by simp
      rw [this, ← List.drop_drop, List.drop_left]; rfl
/-- two comparisons side by side in one part -/
noncomputable def bad : Bool → List Item → Bool
  | _, [] => false
  | s, it :: r => if lv it = 3 then s || bad true r else if lv it < 3 then bad false r else bad s r
theorem bad_up : ∀ {l : List Item}, bad false l = true → bad true l = true
  | it :: r, h => by
    unfold bad at h ⊢
    split
    · rfl
    · rename_i h3
      rw [if_neg h3] at h
      split
      · rename_i h4; rw [if_pos h4] at h; exact h
      · rename_i h4; rw [if_neg h4] at h; exact bad_up h
theorem bad_suffix : ∀ (s : Bool) (a : List Item) {b : List Item}, bad false b = true → bad s (a ++ b) = true
  | false, [], _, h => h
  | true, [], _, h => bad_up h
  | s, it :: a, b, h => by
    rw [List.cons_append]
    unfold bad
    split
    · rw [bad_suffix true a h, Bool.or_true]
    · split
      · exact bad_suffix false a h
      · exact bad_suffix s a h
theorem bad_prefix : ∀ (s : Bool) (a : List Item) (b : List Item), bad s a = true → bad s (a ++ b) = true
  | _, [], _, h => by cases h
  | s, it :: a, b, h => by
    rw [List.cons_append]
    unfold bad at h ⊢
    split
    · rename_i h3
      rw [if_pos h3] at h
      cases s with
      | true => rfl
      | false => rw [Bool.false_or] at h ⊢; exact bad_prefix true a b h
    · rename_i h3
      rw [if_neg h3] at h
      split
      · rename_i h4; rw [if_pos h4] at h; exact bad_prefix false a b h
      · rename_i h4; rw [if_neg h4] at h; exact bad_prefix s a b h
theorem bad_mid {it : Item} (h : lv it < 3) : ∀ (s : Bool) (a b : List Item), bad s (a ++ it :: b) = (bad s a || bad false b)
  | s, [], b => by
    show bad s (it :: b) = _
    conv => lhs; unfold bad
    rw [if_neg (by (first | lia | omega)), if_pos h]; rfl
  | s, x :: a, b => by
    rw [List.cons_append]
    conv => lhs; unfold bad
    conv => rhs; lhs; unfold bad
    split
    · rw [bad_mid h true a b, Bool.or_assoc]
    · split
      · exact bad_mid h false a b
      · exact bad_mid h s a b
theorem bad_three {it : Item} (h : lv it = 3) : ∀ (s : Bool) (a b : List Item), (∀ x ∈ a, 3 ≤ lv x) → (s = true ∨ ∃ x ∈ a, lv x = 3) → bad s (a ++ it :: b) = true
  | s, [], b, _, hs => by
    rcases hs with rfl | ⟨x, hx, _⟩
    · show bad true (it :: b) = true
      unfold bad; rw [if_pos h]; rfl
    · cases hx
  | s, x :: a, b, ha, hs => by
    rw [List.cons_append]
    unfold bad
    have h3 := ha x (.head _)
    have ha' : ∀ y ∈ a, 3 ≤ lv y := fun y hy => ha y (.tail _ hy)
    split
    · rw [bad_three h true a b ha' (.inl rfl), Bool.or_true]
    · rename_i hx
      rw [if_neg (by (first | lia | omega))]
      refine bad_three h s a b ha' ?_
      rcases hs with hs | ⟨y, hy, e⟩
      · exact .inl hs
      · rcases List.mem_cons.mp hy with rfl | hy
        · exact absurd e hx
        · exact .inr ⟨y, hy, e⟩
theorem bad_big : ∀ (s : Bool) (a : List Item), (∀ x ∈ a, 3 < lv x) → bad s a = false
  | _, [], _ => rfl
  | s, x :: a, ha => by
    have h3 := ha x (.head _)
    unfold bad
    rw [if_neg (by (first | lia | omega)), if_neg (by (first | lia | omega))]
    exact bad_big s a fun y hy => ha y (.tail _ hy)
theorem both_none {op : Str} {x y : Option AV} : both op x y = none ↔ x = none ∨ y = none := by
  cases x <;> cases y <;> simp [both]
theorem prt_none : ∀ (f : Nat) (t0 : AV) (l : List Item), l.length < f → (prt f t0 l = none ↔ bad false l = true)
  | 0, _, _, h => absurd h (Nat.not_lt_zero _)
  | f + 1, t0, [], _ => by
    have e : prt (f + 1) t0 [] = some t0 := rfl
    rw [e]; simp [bad]
  | f + 1, t0, x :: r, hl => by
    obtain ⟨l, hlx⟩ : ∃ l, l = x :: r := ⟨_, rfl⟩
    rw [← hlx] at hl ⊢
    have hne : l.map lv ≠ [] := by rw [hlx]; simp
    obtain ⟨h1, h2⟩ := at_lt hne
    rw [List.length_map] at h1
    obtain ⟨n, hn⟩ : ∃ n, n = atOf (l.map lv) := ⟨_, rfl⟩
    rw [← hn] at h1 h2
    have hs := split_at h1
    have hlv : lv l[n] = leastOf (l.map lv) := by
      rw [List.getElem?_map, List.getElem?_eq_getElem h1] at h2
      exact Option.some.inj h2
    have hall : ∀ y ∈ l, leastOf (l.map lv) ≤ lv y := fun y hy => leastOf_le (List.mem_map_of_mem hy)
    have lt1 : (l.take n).length = n := by rw [List.length_take]; (first | lia | omega)
    have lt2 : (l.drop (n + 1)).length < l.length := by rw [List.length_drop]; (first | lia | omega)
    obtain ⟨a, ha⟩ : ∃ a, a = l.take n := ⟨_, rfl⟩
    obtain ⟨b, hb⟩ : ∃ b, b = l.drop (n + 1) := ⟨_, rfl⟩
    obtain ⟨it, hit⟩ : ∃ it, it = l[n] := ⟨_, rfl⟩
    rw [← ha, ← hb, ← hit] at hs
    rw [← hit] at hlv
    rw [← ha] at lt1
    rw [← hb] at lt2
    by_cases h3 : leastOf (l.map lv) = 3 ∧ 1 < (placesOf (l.map lv) 3).length
    · have e : prt (f + 1) t0 l = none := by
        unfold prt parted
        rw [if_neg (by rw [hlx]; simp), lvs, if_pos h3]
      rw [e]
      refine iff_of_true rfl ?_
      have hit3 : lv it = 3 := hlv.trans h3.1
      -- `it` is the last place; another one stands ahead
      have hp := h3.2
      have e0 : l.map lv = a.map lv ++ 3 :: b.map lv := by rw [hs, List.map_append, List.map_cons, hit3]
      have hn3 : atOf (l.map lv) = (placesOf (l.map lv) 3).getLastD 0 := by unfold atOf; rw [h3.1, if_neg (by decide)]
      have hb3 : ∀ y ∈ b.map lv, y ≠ 3 := fun y hy ey => by
        obtain ⟨j, hj, ej⟩ := List.mem_iff_getElem.mp hy
        have hjm : j ∈ placesOf (b.map lv) 3 := mem_places.mpr (by rw [List.getElem?_eq_getElem hj, ej, ey])
        have e1 : atOf (l.map lv) = n := hn.symm
        rw [hn3, e0, places_mid] at e1
        have hne2 : (placesOf (b.map lv) 3).map ((a.map lv).length + 1 + ·) ≠ [] := fun q => by
          rw [List.map_eq_nil_iff] at q; rw [q] at hjm; cases hjm
        rw [List.getLastD_eq_getLast?, List.getLast?_append, List.getLast?_cons, List.getLast?_eq_some_getLast hne2] at e1
        have hmem := List.getLast_mem hne2
        simp only [Option.getD_some, Option.some_or] at e1
        obtain ⟨z, _, hz⟩ := List.mem_map.mp hmem
        rw [← hz, List.length_map] at e1
        (first | lia | omega)
      rw [e0, places_mid, places_none hb3] at hp
      simp only [List.map_nil, List.length_append, List.length_cons, List.length_nil] at hp
      have : placesOf (a.map lv) 3 ≠ [] := fun q => by rw [q] at hp; simp at hp
      obtain ⟨i, hi⟩ := List.exists_mem_of_ne_nil _ this
      have hm := List.mem_of_getElem? (mem_places.mp hi)
      obtain ⟨y, hy, ey⟩ := List.mem_map.mp hm
      rw [hs]
      refine bad_three hit3 false a b (fun z hz => ?_) (.inr ⟨y, hy, ey⟩)
      rw [← h3.1]
      exact hall z (by rw [hs]; exact List.mem_append_left _ hz)
    · have e : prt (f + 1) t0 l = both it.op (prt f t0 a) (prt f (tr it) b) := by
        have h4 := prt_mid f t0 a b it (by rw [← hs, lt1]; exact hn.symm) (by rw [← hs]; exact h3)
        rw [← hs] at h4; exact h4
      rw [e, both_none, prt_none f t0 a (by (first | lia | omega)), prt_none f (tr it) b (by (first | lia | omega))]
      by_cases hlt : lv it < 3
      · rw [hs, bad_mid hlt, Bool.or_eq_true]
      · have hno : bad false l = false := by
          by_cases h5 : lv it = 3
          · -- only one place
            have h6 : leastOf (l.map lv) = 3 := hlv.symm.trans h5
            have h7 : ¬ 1 < (placesOf (l.map lv) 3).length := fun q => h3 ⟨h6, q⟩
            have e0 : l.map lv = a.map lv ++ 3 :: b.map lv := by rw [hs, List.map_append, List.map_cons, h5]
            rw [e0, places_mid] at h7
            simp only [List.length_append, List.length_cons, List.length_map] at h7
            have a0 : placesOf (a.map lv) 3 = [] := List.eq_nil_of_length_eq_zero (by (first | lia | omega))
            have b0 : placesOf (b.map lv) 3 = [] := List.eq_nil_of_length_eq_zero (by (first | lia | omega))
            have no3 : ∀ {z : List Item}, placesOf (z.map lv) 3 = [] → ∀ y ∈ z, lv y ≠ 3 := fun {z} hz y hy ey => by
              obtain ⟨j, hj, ej⟩ := List.mem_iff_getElem.mp (List.mem_map_of_mem (f := lv) hy)
              have : j ∈ placesOf (z.map lv) 3 := mem_places.mpr (by rw [List.getElem?_eq_getElem hj, ej, ey])
              rw [hz] at this; cases this
            have ga : ∀ y ∈ a, 3 < lv y := fun y hy => by
              have := hall y (by rw [hs]; exact List.mem_append_left _ hy)
              have := no3 a0 y hy; (first | lia | omega)
            have gb : ∀ y ∈ b, 3 < lv y := fun y hy => by
              have := hall y (by rw [hs]; exact List.mem_append_right _ (.tail _ hy))
              have := no3 b0 y hy; (first | lia | omega)
            have key : ∀ (s : Bool) (z : List Item), (∀ y ∈ z, 3 < lv y) → bad s (z ++ it :: b) = s := by
              intro s z
              induction z with
              | nil =>
                intro _
                show bad s (it :: b) = s
                unfold bad
                rw [if_pos h5, bad_big true b gb, Bool.or_false]
              | cons y z ih =>
                intro hz
                have := hz y (.head _)
                rw [List.cons_append]
                unfold bad
                rw [if_neg (by (first | lia | omega)), if_neg (by (first | lia | omega))]
                exact ih fun w hw => hz w (.tail _ hw)
            rw [hs]; exact key false a ga
          · refine bad_big false l fun y hy => ?_
            have := hall y hy; (first | lia | omega)
        rw [hno]
        constructor
        · rintro (h | h)
          · have := bad_prefix false a (it :: b) h; rw [← hs, hno] at this; exact this
          · have := bad_suffix false (a ++ [it]) h
            rw [List.append_assoc, List.singleton_append, ← hs, hno] at this; exact this
        · intro h; cases h
theorem prt_fuel : ∀ (f g : Nat) (t0 : AV) (l : List Item), l.length < f → l.length < g → prt f t0 l = prt g t0 l
  | 0, _, _, _, h, _ => absurd h (Nat.not_lt_zero _)
  | _, 0, _, _, _, h => absurd h (Nat.not_lt_zero _)
  | f + 1, g + 1, t0, [], _, _ => rfl
  | f + 1, g + 1, t0, x :: r, hf, hg => by
    obtain ⟨l, hlx⟩ : ∃ l, l = x :: r := ⟨_, rfl⟩
    rw [← hlx] at hf hg ⊢
    have hne : l.map lv ≠ [] := by rw [hlx]; simp
    obtain ⟨h1, h2⟩ := at_lt hne
    rw [List.length_map] at h1
    have hs := split_at h1
    by_cases h3 : leastOf (l.map lv) = 3 ∧ 1 < (placesOf (l.map lv) 3).length
    · have e : ∀ k, prt (k + 1) t0 l = none := fun k => by
        unfold prt parted
        rw [if_neg (by rw [hlx]; simp), lvs, if_pos h3]
      rw [e, e]
    · have e : ∀ k, prt (k + 1) t0 l = both _ (prt k t0 (l.take (atOf (l.map lv)))) (prt k (tr l[atOf (l.map lv)]) (l.drop (atOf (l.map lv) + 1))) := fun k => by
        have h4 := prt_mid k t0 (l.take (atOf (l.map lv))) (l.drop (atOf (l.map lv) + 1)) l[atOf (l.map lv)] (by rw [← hs, List.length_take]; (first | lia | omega)) (by rw [← hs]; exact h3)
        rw [← hs] at h4; exact h4
      rw [e, e, prt_fuel f g t0 _ (by rw [List.length_take]; (first | lia | omega)) (by rw [List.length_take]; (first | lia | omega)), prt_fuel f g _ _ (by rw [List.length_drop]; (first | lia | omega)) (by rw [List.length_drop]; (first | lia | omega))]
theorem prt_last {f : Nat} {t0 : AV} {a b : List Item} {it : Item} (hf : (a ++ it :: b).length < f) (h0 : lv it ≠ 0) (ha : ∀ x ∈ a, lv it ≤ lv x) (hb : ∀ x ∈ b, lv it < lv x) (h3 : lv it = 3 → ∀ x ∈ a, lv x ≠ 3) :
    prt f t0 (a ++ it :: b) = both it.op (prt f t0 a) (prt f (tr it) b) := by
  have hl : (a ++ it :: b).length = a.length + b.length + 1 := by simp; (first | lia | omega)
  have am : ∀ y ∈ a.map lv, lv it ≤ y := fun y hy => by obtain ⟨z, hz, rfl⟩ := List.mem_map.mp hy; exact ha z hz
  have bm : ∀ y ∈ b.map lv, lv it < y := fun y hy => by obtain ⟨z, hz, rfl⟩ := List.mem_map.mp hy; exact hb z hz
  have em : (a ++ it :: b).map lv = a.map lv ++ lv it :: b.map lv := by simp
  cases f with
  | zero => (first | lia | omega)
  | succ f =>
    rw [prt_mid f t0 a b it (by rw [em, at_last am bm h0, List.length_map]) ?_, prt_fuel f (f + 1) t0 a (by (first | lia | omega)) (by (first | lia | omega)), prt_fuel f (f + 1) (tr it) b (by (first | lia | omega)) (by (first | lia | omega))]
    rintro ⟨e1, e2⟩
    rw [em, least_mid am fun y hy => Int.le_of_lt (bm y hy)] at e1
    rw [em, e1, places_mid, places_none (ls := b.map lv) fun y hy => by have := bm y hy; (first | lia | omega), places_none (ls := a.map lv) fun y hy ey => by
      obtain ⟨z, hz, rfl⟩ := List.mem_map.mp hy; exact h3 e1 z hz ey] at e2
    simp at e2
theorem prt_first {f : Nat} {t0 : AV} {a b : List Item} {it : Item} (hf : (a ++ it :: b).length < f) (h0 : lv it = 0) (ha : ∀ x ∈ a, 0 < lv x) (hb : ∀ x ∈ b, 0 ≤ lv x) :
    prt f t0 (a ++ it :: b) = both it.op (prt f t0 a) (prt f (tr it) b) := by
  have hl : (a ++ it :: b).length = a.length + b.length + 1 := by simp; (first | lia | omega)
  have am : ∀ y ∈ a.map lv, 0 < y := fun y hy => by obtain ⟨z, hz, rfl⟩ := List.mem_map.mp hy; exact ha z hz
  have bm : ∀ y ∈ b.map lv, 0 ≤ y := fun y hy => by obtain ⟨z, hz, rfl⟩ := List.mem_map.mp hy; exact hb z hz
  have em : (a ++ it :: b).map lv = a.map lv ++ 0 :: b.map lv := by rw [List.map_append, List.map_cons, h0]
  cases f with
  | zero => (first | lia | omega)
  | succ f =>
    rw [prt_mid f t0 a b it (by rw [em, at_first am bm, List.length_map]) ?_, prt_fuel f (f + 1) t0 a (by (first | lia | omega)) (by (first | lia | omega)), prt_fuel f (f + 1) (tr it) b (by (first | lia | omega)) (by (first | lia | omega))]
    rintro ⟨e1, _⟩
    rw [em, least_mid (fun y hy => Int.le_of_lt (am y hy)) bm] at e1
    cases e1
/-! ## Precedence climbing parts alike -/
theorem levS_nonneg (s : Str) : 0 ≤ levS s := by
  unfold levS
  cases h : LEV.lookup s with
  | none => exact Int.le_refl _
  | some v =>
    have : ∀ {l : List (Str × Int)}, l.all (fun p => decide (0 ≤ p.2)) = true → l.lookup s = some v → 0 ≤ v := by
      intro l
      induction l with
      | nil => intro _ e; cases e
      | cons p l ih =>
        obtain ⟨x, y⟩ := p
        intro ha e
        rw [List.all_cons, Bool.and_eq_true] at ha
        rw [List.lookup_cons] at e
        cases q : s == x with
        | true => rw [q] at e; cases e; exact of_decide_eq_true ha.1
        | false => rw [q] at e; exact ih ha.2 e
    exact this (by decide) h
theorem zero_ops {s : Str} (h : levS s ≠ 0) : (s == "=" || s == "+=") = false := by
  rw [Bool.or_eq_false_iff]
  exact ⟨beq_eq_false_iff_ne.mpr fun e => h (by rw [e]; decide), beq_eq_false_iff_ne.mpr fun e => h (by rw [e]; decide)⟩
noncomputable def Whole (l : List Item) : Prop := ∀ it ∈ l, it.o.r.isSome = true
theorem Whole.tr {l : List Item} (h : Whole l) {it : Item} (hi : it ∈ l) : it.o.r = some (tr it) := by
  have := h it hi
  unfold Mine.tr
  cases e : it.o.r with
  | none => rw [e] at this; cases this
  | some t => rfl
theorem beh_parts (F : Nat) : ∀ (f : Nat) (least : Int) (left : AV) (cmp : Bool) (done l : List Item) (t0 : AV), l.length < f → (done ++ l).length < F → Whole l → 1 ≤ least → prt F t0 done = some left →
    (∀ it r, l = it :: r → least ≤ lv it → (∀ x ∈ done, lv it ≤ lv x) ∧ (lv it = 3 → (cmp = true ↔ ∃ x ∈ done, lv x = 3))) →
    (∃ pre rest t, l = pre ++ rest ∧ prt F t0 (done ++ pre) = some t ∧ beh f least left cmp l = some (t, rest) ∧ (∀ x ∈ pre, least ≤ lv x) ∧ ∀ it r, rest = it :: r → lv it < least) ∨
    (beh f least left cmp l = none ∧ bad false (done ++ l) = true)
  | 0, _, _, _, _, _, _, h, _, _, _, _, _ => absurd h (Nat.not_lt_zero _)
  | f + 1, least, left, cmp, done, [], t0, _, _, _, _, hd, _ => .inl ⟨[], [], left, rfl, by rw [List.append_nil]; exact hd, rfl, fun _ h => (nomatch h), fun _ _ h => nomatch h⟩
  | f + 1, least, left, cmp, done, it :: r, t0, hl, hF, hw, h1, hd, inv => by
    by_cases hlt : lv it < least
    · refine .inl ⟨[], it :: r, left, rfl, by rw [List.append_nil]; exact hd, ?_, fun _ h => (nomatch h), fun i r' e => by cases e; exact hlt⟩
      unfold beh
      rw [if_pos (.inl hlt)]
    · have hge : least ≤ lv it := by (first | lia | omega)
      have hne : lv it ≠ 0 := by (first | lia | omega)
      obtain ⟨hdone, hc⟩ := inv it r rfl hge
      have hns : ¬ (levS it.op < least ∨ levS it.op = 0) := fun e => e.elim hlt hne
      have eit := hw.tr (.head _)
      have hwr : Whole r := fun x hx => hw x (.tail _ hx)
      by_cases hcmp : levS it.op = 3 ∧ cmp = true
      · refine .inr ⟨?_, ?_⟩
        · unfold beh
          rw [if_neg hns, if_pos hcmp]
        · have h3 : lv it = 3 := hcmp.1
          exact bad_three h3 false done r (fun x hx => by rw [← h3]; exact hdone x hx) (.inr ((hc h3).mp hcmp.2))
      · have no3 : lv it = 3 → ∀ x ∈ done, lv x ≠ 3 := fun h3 x hx e => hcmp ⟨h3, (hc h3).mpr ⟨x, hx, e⟩⟩
        have hlr : r.length < f := by simpa using hl
        have hFr : done.length + r.length + 1 < F := by simp at hF; (first | lia | omega)
        rcases beh_parts F f (lv it + 1) (tr it) false [] r (tr it) hlr (by simp; (first | lia | omega)) hwr (by (first | lia | omega)) (by
            cases F with
            | zero => (first | lia | omega)
            | succ F => rfl) (fun i r' _ _ => ⟨fun _ h => (nomatch h), fun _ => ⟨fun h => (nomatch h), fun ⟨_, h, _⟩ => nomatch h⟩⟩) with ⟨pre, rest, t, e1, e2, e3, e4, e5⟩ | ⟨e1, e2⟩
        · rw [List.nil_append] at e2
          have eb : beh (f + 1) least left cmp (it :: r) = beh f least (binT left it.op t) (levS it.op == 3) rest := by
            conv => lhs; unfold beh
            rw [if_neg hns, if_neg hcmp, eit]
            dsimp only
            rw [show levS it.op + 1 = lv it + 1 from rfl, e3]
          have hrest : rest.length ≤ r.length := by rw [e1, List.length_append]; (first | lia | omega)
          have ed : (done ++ it :: pre) ++ rest = done ++ it :: r := by rw [e1]; simp
          have hpd : prt F t0 (done ++ it :: pre) = some (binT left it.op t) := by
            rw [prt_last (by rw [e1] at hFr; simp at hFr ⊢; (first | lia | omega)) hne hdone (fun x hx => by have := e4 x hx; (first | lia | omega)) no3, hd, e2]
            show some (opT it.op left t) = _
            unfold opT
            rw [if_neg (by rw [zero_ops hne]; decide)]
          have inv2 : ∀ i r', rest = i :: r' → least ≤ lv i → (∀ x ∈ done ++ it :: pre, lv i ≤ lv x) ∧ (lv i = 3 → ((levS it.op == 3) = true ↔ ∃ x ∈ done ++ it :: pre, lv x = 3)) := fun i r' er hi => by
            have h6 := e5 i r' er
            refine ⟨fun x hx => ?_, fun h7 => ⟨fun h8 => ?_, fun ⟨x, hx, ex⟩ => ?_⟩⟩
            · rcases List.mem_append.mp hx with hx | hx
              · have := hdone x hx; (first | lia | omega)
              · rcases List.mem_cons.mp hx with rfl | hx
                · (first | lia | omega)
                · have := e4 x hx; (first | lia | omega)
            · exact ⟨it, by simp, eq_of_beq h8⟩
            · refine beq_iff_eq.mpr ?_
              show lv it = 3
              rcases List.mem_append.mp hx with hx | hx
              · have := hdone x hx; (first | lia | omega)
              · rcases List.mem_cons.mp hx with rfl | hx
                · exact ex
                · have := e4 x hx; (first | lia | omega)
          rcases beh_parts F f least (binT left it.op t) (levS it.op == 3) (done ++ it :: pre) rest t0 (by (first | lia | omega)) (by rw [ed]; exact hF) (fun x hx => hwr x (by rw [e1]; exact List.mem_append_right _ hx)) h1 hpd inv2 with ⟨pre2, rest2, t2, g1, g2, g3, g4, g5⟩ | ⟨g1, g2⟩
          · refine .inl ⟨it :: pre ++ pre2, rest2, t2, by rw [e1, g1]; simp, by rw [← g2]; congr 1; simp, eb.trans g3, fun x hx => ?_, g5⟩
            rcases List.mem_append.mp hx with hx | hx
            · rcases List.mem_cons.mp hx with rfl | hx
              · exact hge
              · have := e4 x hx; (first | lia | omega)
            · exact g4 x hx
          · exact .inr ⟨eb.trans g1, by rw [← ed]; exact g2⟩
        · refine .inr ⟨?_, ?_⟩
          · unfold beh
            rw [if_neg hns, if_neg hcmp, eit]
            dsimp only
            rw [show levS it.op + 1 = lv it + 1 from rfl, e1]
          · have := bad_suffix false (done ++ [it]) e2
            rw [List.nil_append, List.append_assoc] at this
            exact this
theorem expr_parts (F : Nat) : ∀ (f : Nat) (o : Opn) (rest : List Item) (t0 : AV), rest.length < f → rest.length < F → o.r = some t0 → Whole rest → (∀ it ∈ rest, (("sign" : Str), it.op) ∈ opsL) → expr f o rest = prt F t0 rest
  | 0, _, _, _, h, _, _, _, _ => absurd h (Nat.not_lt_zero _)
  | f + 1, o, rest, t0, hl, hF, ho, hw, hop => by
    unfold expr
    rw [ho]
    dsimp only
    rcases beh_parts F (rest.length + 1) 1 t0 false [] rest t0 (Nat.lt_succ_self _) (by simpa using hF) hw (by decide) (by
        cases F with
        | zero => (first | lia | omega)
        | succ F => rfl) (fun i r' _ _ => ⟨fun _ h => (nomatch h), fun _ => ⟨fun h => (nomatch h), fun ⟨_, h, _⟩ => nomatch h⟩⟩) with ⟨pre, rest', t, e1, e2, e3, e4, e5⟩ | ⟨e1, e2⟩
    · rw [List.nil_append] at e2
      rw [e3]
      cases rest' with
      | nil =>
        rw [List.append_nil] at e1
        rw [e1, e2]
      | cons it r =>
        dsimp only
        have h0 : lv it = 0 := by have := e5 it r rfl; have := levS_nonneg it.op; unfold lv at *; (first | lia | omega)
        have hlr : r.length < f := by rw [e1] at hl; simp at hl; (first | lia | omega)
        have hFr : r.length < F := by rw [e1] at hF; simp at hF; (first | lia | omega)
        have hwr : Whole r := fun x hx => hw x (by rw [e1]; simp [hx])
        rw [expr_parts F f it.o r (tr it) hlr hFr (hw.tr (by rw [e1]; simp)) hwr (fun x hx => hop x (by rw [e1]; simp [hx]))]
        have hm : prt F t0 rest = both it.op (prt F t0 pre) (prt F (tr it) r) := by
          have := prt_first (f := F) (t0 := t0) (a := pre) (b := r) (it := it) (by rw [← e1]; exact hF) h0 (fun x hx => by have := e4 x hx; (first | lia | omega)) (fun x hx => levS_nonneg _)
          rw [← e1] at this; exact this
        rw [hm, e2]
        have hz : (it.op == "=" || it.op == "+=") = true := by
          have := ops_zero (hop it (by rw [e1]; simp)) (.inr h0)
          simpa using this
        cases prt F (tr it) r with
        | none => rfl
        | some r2 =>
          show some _ = some (opT it.op t r2)
          unfold opT
          rw [if_pos hz]
    · rw [e1]
      exact ((prt_none F t0 rest hF).mpr (by simpa using e2)).symm
/-- a fault in an operand is a fault -/
theorem beh_whole : ∀ (f : Nat) (least : Int) (left : AV) (cmp : Bool) (l : List Item) {t : AV} {rest : List Item}, beh f least left cmp l = some (t, rest) → ∃ pre, l = pre ++ rest ∧ Whole pre
  | 0, _, _, _, _, _, _, e => by cases e
  | _ + 1, _, _, _, [], _, _, e => by cases e; exact ⟨[], rfl, fun _ h => nomatch h⟩
  | f + 1, least, left, cmp, it :: r, t, rest, e => by
    unfold beh at e
    split at e
    · cases e; exact ⟨[], rfl, fun _ h => nomatch h⟩
    · split at e
      · cases e
      · split at e
        · cases e
        · rename_i t1 ht1
          split at e
          · cases e
          · rename_i right rest2 e2
            obtain ⟨p1, h1, w1⟩ := beh_whole f _ _ _ _ e2
            obtain ⟨p2, h2, w2⟩ := beh_whole f _ _ _ _ e
            refine ⟨it :: (p1 ++ p2), by rw [h1, h2]; simp, fun x hx => ?_⟩
            rcases List.mem_cons.mp hx with rfl | hx
            · rw [ht1]; rfl
            · exact (List.mem_append.mp hx).elim (w1 x) (w2 x)
theorem expr_whole : ∀ (f : Nat) (o : Opn) (rest : List Item) {t : AV}, expr f o rest = some t → o.r.isSome = true ∧ Whole rest
  | 0, _, _, _, e => by cases e
  | f + 1, o, rest, t, e => by
    unfold expr at e
    split at e
    · cases e
    · rename_i t0 ho
      refine ⟨by rw [ho]; rfl, ?_⟩
      split at e
      · cases e
      · rename_i left eb
        obtain ⟨pre, h1, w1⟩ := beh_whole _ _ _ _ _ eb
        rw [List.append_nil] at h1
        rw [h1]; exact w1
      · rename_i left it rest' eb
        split at e
        · cases e
        · rename_i r er
          obtain ⟨pre, h1, w1⟩ := beh_whole _ _ _ _ _ eb
          obtain ⟨h2, w2⟩ := expr_whole f _ _ er
          intro x hx
          rw [h1] at hx
          rcases List.mem_append.mp hx with hx | hx
          · exact w1 x hx
          · rcases List.mem_cons.mp hx with rfl | hx
            · exact h2
            · exact w2 x hx
theorem expr_none {f : Nat} {o : Opn} {rest : List Item} (h : o.r = none ∨ ∃ it ∈ rest, it.o.r = none) : expr f o rest = none := by
  cases e : expr f o rest with
  | none => rfl
  | some t =>
    obtain ⟨h1, h2⟩ := expr_whole _ _ _ e
    rcases h with h | ⟨it, hi, h⟩
    · rw [h] at h1; cases h1
    · have := h2 it hi; rw [h] at this; cases this

/-! # Text WCC -/
/-! # Trees in a comprehension's names -/
section
variable {c : Fc} {ρ ρC : List (Str × AV)} {C : Addr} {σ : Store} {cenv : Env} {Q : AV → Store → Prop}
noncomputable abbrev noX : Store → Prop := fun _ => False
theorem EvC.mono {e : Expr} {Q' : AV → Store → Prop} (h : EvC c ρ ρC C cenv e σ Q) (k : ∀ a σ', Q a σ' → Q' a σ') : EvC c ρ ρC C cenv e σ Q' := fun A outer s F => wpAny_mono (h A outer s F) (fun _ _ ⟨b, σ', G, r, q⟩ => ⟨b, σ', G, r, k _ _ q⟩) fun _ _ x => x
theorem EvC_name {x : Str} {pos : Pos} {v : AV} (hk : cenv.scope.kind = .function) (hx : cenv.kindOf x = some .local) (hC : cenv.locals = C) (hv : ρC.lookup x = some v) (q : Q v σ) (hd : (x == ("__debug__" : Str)) = false := by decide) : EvC c ρ ρC C cenv (.Name x pos) σ Q := fun A outer s F => by
  obtain ⟨m, hn, hr⟩ := F.ns
  obtain ⟨u, e, r⟩ := hr x v hv
  subst hC
  exact wpAny_Name (wpAny_loadName_local hk hx hn e ⟨v, σ, .refl F.F.ok, r, q⟩) hd
theorem EvC_cell {x : Str} {pos : Pos} {D : Addr} {v : AV} (hk : cenv.scope.kind = .function) (hx : cenv.kindOf x = some .cell) (hc : cenv.cells.lookup x = some D) (sD : σ D = some (.cell (some v))) (q : Q v σ) (hd : (x == ("__debug__" : Str)) = false := by decide) : EvC c ρ ρC C cenv (.Name x pos) σ Q := fun A outer s F => by
  obtain ⟨o, y, e, d, r⟩ := cell_at F.F sD
  cases y with
  | none => exact r.elim
  | some u => exact wpAny_Name (wpAny_loadName_cell hk hx hc ⟨o, e, d⟩ ⟨v, σ, .refl F.F.ok, r, q⟩) hd
theorem EvC_gf {x : Str} {pos : Pos} {f : Addr} (hk : cenv.scope.kind = .function) (hx : cenv.kindOf x = some .globalImplicit) (hg : cenv.globals = mainGlobals) (gv : gval x = some (.ref f)) (q : Q (.val (.ref f)) σ) (hd : (x == ("__debug__" : Str)) = false := by decide) : EvC c ρ ρC C cenv (.Name x pos) σ Q := fun A outer s F =>
  wpAny_Name (loadName_g hk hx (loadGlobal_global (by rw [hg]; exact F.F.base.g.keeps F.F.ok.stays) (glob_is F.F.base gv) ⟨.val (.ref f), σ, .refl F.F.ok, rfl, q⟩)) hd
theorem EvC_int {i : Int} {k : Nat} {pos : Pos} (q : Q (.int i) σ) : EvC c ρ ρC C cenv (.Constant (.int i) k pos) σ Q := fun A outer s F => wpAny_Constant_int ⟨.int i, σ, ⟨⟨rfl, rfl, rfl⟩, F.F.ok, fun _ _ e _ _ => e, fun _ _ _ n => n⟩, ⟨_, rfl⟩, q⟩
theorem CF.two {A : Around} {outer : List Env} {s : Shared} (F : CF c ρ ρC C A outer s σ) {x y : Value} {a b : AV} (r : VRel s.heap x a) (r2 : VRel s.heap y b) : InFr c ρ [(x, a), (y, b)] A outer s σ :=
  have k : ∀ p ∈ [(x, a), (y, b)], VRel s.heap p.1 p.2 := fun p hp => by
    rcases List.mem_cons.mp hp with rfl | hp
    · exact r
    · cases List.mem_singleton.mp hp; exact r2
  { F.F with pend := k }
theorem EvC_bin {l r : Expr} {op : Operator} {pos : Pos} (h : EvC c ρ ρC C cenv l σ (fun a σ₁ => EvC c ρ ρC C cenv r σ₁ (fun b σ₂ => BinJ c ρ op a b σ₂ Q))) : EvC c ρ ρC C cenv (.BinOp l op r pos) σ Q := fun A outer s F => by
  rw [eval_BinOp]
  refine wpAny_bind (wpAny_mono (h A outer s F) (fun x s₁ ⟨a, σ₁, G, r, k⟩ => ?_) fun _ _ x => x)
  have F₁ := F.good G
  refine wpAny_bind (wpAny_holding (wpAny_mono (k A outer s₁ F₁) (fun y s₂ ⟨b, σ₂, G₂, r₂, k₂⟩ => ?_) fun _ _ x => x))
  have F₂ := F₁.good G₂
  refine wpAny_bind (wpAny_standAt ?_)
  refine wpAny_operateT (J.go (k₂ x y [(x, a), (y, b)] (.head _) (.tail _ (.head _)) noX) (F₂.two (G₂.vrel F₁.F.ok (fun _ q => nomatch q) r) r₂) (fun z d s₃ σ₃ G₃ r₃ q => ⟨d, σ₃, (G.trans G₂ noneK).trans G₃ noneK, r₃, q⟩) fun _ _ ⟨_, _, f⟩ => f)
theorem EvC_sub {value slice : Expr} {pos : Pos} (h : EvC c ρ ρC C cenv value σ (fun a σ₁ => EvC c ρ ρC C cenv slice σ₁ (fun b σ₂ => SubJ c ρ slice a b σ₂ Q))) : EvC c ρ ρC C cenv (.Subscript value slice pos) σ Q := fun A outer s F => by
  refine Subscript_ (wpAny_mono (h A outer s F) (fun x s₁ ⟨a, σ₁, G, r, k⟩ => ?_) fun _ _ x => x)
  have F₁ := F.good G
  refine wpAny_mono (k A outer s₁ F₁) (fun y s₂ ⟨b, σ₂, G₂, r₂, k₂⟩ => ?_) fun _ _ x => x
  have F₂ := F₁.good G₂
  exact J.go (k₂ x y [(x, a), (y, b)] value (.head _) (.tail _ (.head _)) noX) (F₂.two (G₂.vrel F₁.F.ok (fun _ q => nomatch q) r) r₂) (fun z d s₃ σ₃ G₃ r₃ q => ⟨d, σ₃, (G.trans G₂ noneK).trans G₃ noneK, r₃, q⟩) fun _ _ ⟨_, _, f⟩ => f
noncomputable def EvsC (c : Fc) (ρ ρC : List (Str × AV)) (C : Addr) (cenv : Env) (pos : Pos) (es : List Expr) (σ : Store) (Q : List AV → Store → Prop) : Prop :=
  ∀ A outer s, CF c ρ ρC C A outer s σ → wpAny (model pw c.w) A (spliced (backTo pos (starEach es cenv))) (fun vs s' => ∃ as σ', Good c.w c.H none s σ s' σ' ∧ VRels s'.heap vs as ∧ vs.length = es.length ∧ Q as σ') (fun _ _ => False) s
theorem EvsC_nil {pos : Pos} {Q : List AV → Store → Prop} (q : Q [] σ) : EvsC c ρ ρC C cenv pos [] σ Q := fun A outer s F => args_nil ⟨[], σ, .refl F.F.ok, rfl, rfl, q⟩
theorem EvsC_cons {pos : Pos} {e : Expr} {es : List Expr} {Q : List AV → Store → Prop} (hs : notStar e = true) (h : EvC c ρ ρC C cenv e σ (fun a σ₁ => EvsC c ρ ρC C cenv pos es σ₁ (fun as σ₂ => Q (a :: as) σ₂))) : EvsC c ρ ρC C cenv pos (e :: es) σ Q := fun A outer s F =>
  args_cons (wpAny_mono (h A outer s F) (fun v s₁ ⟨a, σ₁, G, r, k⟩ => wpAny_mono (k A outer s₁ (F.good G)) (fun vs s₂ ⟨as, σ₂, G₂, rs, hl, q⟩ => ⟨a :: as, σ₂, G.trans G₂ noneK, ⟨v, vs, rfl, G₂.vrel G.ok (fun _ q => nomatch q) r, rs⟩, by rw [List.length_cons, hl]; rfl, q⟩) fun _ _ x => x) fun _ _ x => x) (starEach_cons' hs)
theorem EvC_tup {es : List Expr} {k : Nat} {pos : Pos} (h : EvsC c ρ ρC C cenv pos es σ (fun as σ₁ => Q (.tup as) σ₁)) (hz : es.length ≤ 1000 := by decide) : EvC c ρ ρC C cenv (.Tuple es k pos) σ Q := fun A outer s F =>
  Tuple_ (wpAny_mono (h A outer s F) (fun vs s₁ ⟨as, σ₁, G, rs, hl, q⟩ => by
    refine wpAny_newObj_type ⟨.tup as, σ₁, G.trans (.keep G.ok ⟨rfl, rfl, rfl⟩ push_keep) noneK, ⟨_, _, _, vs, rfl, Heap.get?_push_size _ rfl, rfl, rfl, rs.mono (fun b o e _ => push_keep b o e) as⟩, q⟩ ?_
    show vs.toArray.size ≤ sizeLine
    rw [List.size_toArray, hl, sizeLine_eq]; (first | lia | omega)) fun _ _ x => x)
theorem EvC_call {func : Expr} {args : List Expr} {pos : Pos} {f : Addr} (h : EvC c ρ ρC C cenv func σ (fun a σ₁ => a = .val (.ref f) ∧ EvsC c ρ ρC C cenv pos args σ₁ (fun as σ₂ => CallJ c ρ (.ref f) as σ₂ Q noX))) (hk : keepIn (KO c.w.params) (.ref f) = true) (hs : (!args.isEmpty && args.all notStar) = true := by rfl)
    (he : eval (.Call func args [] pos) cenv = (do callWith pos (← eval func cenv) [] (backTo pos (starEach args cenv)) (backToKw pos (keywordEach [] cenv))) := by rfl) : EvC c ρ ρC C cenv (.Call func args [] pos) σ Q := fun A outer s F =>
  Call_ (wpAny_mono (h A outer s F) (fun v s₁ ⟨a, σ₁, G, r, e, k⟩ => by
    subst e
    obtain rfl : v = .ref f := r
    have F₁ := F.good G
    cases args with
    | nil => cases hs
    | cons e es =>
      have hs : ((e :: es).all notStar) = true := hs
      rw [List.all_cons, Bool.and_eq_true] at hs
      refine callWith_K (h₀ := s₁.heap) F₁.F.K hk (wpAny_mono (k A outer s₁ F₁) (fun vs s₂ ⟨as, σ₂, G₂, rs, _, kk⟩ => ?_) fun _ _ x => x) (starEach_cons' hs.1) (star_any hs.2)
      have F₂ := F₁.good G₂
      exact ⟨F₂.F.K, wpAny_mono (kk A outer s₂ vs F₂.F rs) (fun z s₃ ⟨b, σ₃, G₃, r₃, q⟩ => ⟨b, σ₃, (G.trans G₂ noneK).trans G₃ noneK, r₃, q⟩) fun _ _ ⟨_, _, f⟩ => f⟩) fun _ _ x => x) he
theorem EvC_call0 {func : Expr} {pos : Pos} {f : Addr} (h : EvC c ρ ρC C cenv func σ (fun a σ₁ => a = .val (.ref f) ∧ CallJ c ρ (.ref f) [] σ₁ Q noX)) (hk : keepIn (KO c.w.params) (.ref f) = true)
    (he : eval (.Call func [] [] pos) cenv = (do callWith pos (← eval func cenv) [] (backTo pos (starEach [] cenv)) (backToKw pos (keywordEach [] cenv))) := by rfl) : EvC c ρ ρC C cenv (.Call func [] [] pos) σ Q := fun A outer s F =>
  Call_ (wpAny_mono (h A outer s F) (fun v s₁ ⟨a, σ₁, G, r, e, k⟩ => by
    subst e
    obtain rfl : v = .ref f := r
    have F₁ := F.good G
    exact wpAny_mono (callWith_args0 (pre := []) hk F₁.F rfl k) (fun z s₂ ⟨b, σ₂, G₂, r₂, q⟩ => ⟨b, σ₂, G.trans G₂ noneK, r₂, q⟩) fun _ _ ⟨_, _, f⟩ => f) fun _ _ x => x) he
theorem TsC_cmp {l r : Expr} {op : CmpOp} {pos : Pos} {Q : Bool → Store → Prop} (h : EvC c ρ ρC C cenv l σ (fun a σ₁ => EvC c ρ ρC C cenv r σ₁ (fun b σ₂ => CmpJ c ρ op a b σ₂ Q))) (hm : behindInMarks op r = false := by with_unfolding_all rfl) : TsC c ρ ρC C cenv [.Compare l [op] [r] pos] σ Q := fun A outer s F => by
  refine wpAny_tests_one ?_
  rw [isTrue_Compare1, markedBehindIn_of_false hm]
  refine wpAny_bind (wpAny_mono (h A outer s F) (fun x s₁ ⟨a, σ₁, G, r, k⟩ => ?_) fun _ _ x => x)
  have F₁ := F.good G
  refine wpAny_bind (wpAny_holding (wpAny_mono (k A outer s₁ F₁) (fun y s₂ ⟨b, σ₂, G₂, r₂, k₂⟩ => ?_) fun _ _ x => x))
  have F₂ := F₁.good G₂
  refine wpAny_bind (wpAny_standAt (wpAny_bind (wpAny_operateT (J.go (k₂ x y [(x, a), (y, b)] (.head _) (.tail _ (.head _)) noX) (F₂.two (G₂.vrel F₁.F.ok (fun _ q => nomatch q) r) r₂) (fun z d s₃ σ₃ G₃ r₃ q => ?_) fun _ _ ⟨_, _, f⟩ => f))))
  subst r₃
  exact wpAny_holding (wpAny_truthy_bool ⟨σ₃, (G.trans G₂ noneK).trans G₃ noneK, q⟩)
end
/-! ## Two clauses -/
noncomputable def Nests (e : Expr) (depth : Nat) (p : Pos) (target : Expr) (ifs : List Expr) (iter2 : Expr) (it acc : Value) (env : Env) : Prop :=
  compTurn e depth it acc env = (standAt p >>= fun _ => pyNext it >>= fun r => match r with
    | none => pure (.done .next)
    | some v => letOwnedTupleGo target it v >>= fun _ => assign target env v >>= fun _ => testsOf ifs env >>= fun ok =>
        if ok = true then (eval iter2 env >>= fun x => standAt iter2.pos >>= fun _ => foldedSetIterable iter2 env x >>= fun x => holding [x] (pyIter x) >>= fun it2 => runOwn (.compStart e (depth + 1) it2 acc env) env >>= fun _ => again (.compLoop e depth it acc env)) else again (.compLoop e depth it acc env))
section
variable {prog : Program} {w : World} {A : Around} {R : Result → Shared → Prop} {s : Shared}
theorem nest_loop {e target iter2 : Expr} {depth : Nat} {p : Pos} {ifs : List Expr} {it acc : Value} {env : Env} (hq : (Code.compLoop e depth it acc env).quiet = true) (hu : A.under (.compLoop e depth it acc env) = A)
    (hd : denote table (.compLoop e depth it acc env) = (compTurn e depth it acc env).onRaise (fun x => do noteFrame x env; theTreesLotGoes x)) (ht : Nests e depth p target ifs iter2 it acc env) (hs2 : ∀ x, foldedSetIterable iter2 env x = pure x) (I : Nat → Shared → Prop)
    (turn : ∀ n s, I n s → wpAny (model prog w) A (pyNext it) (fun r s₁ => match r with
      | none => R (.ok .next) s₁
      | some v => wpAny (model prog w) A (letOwnedTupleGo target it v) (fun _ s₂ => wpAny (model prog w) A (assign target env v) (fun _ s₃ => wpAny (model prog w) A (testsOf ifs env) (fun ok s₄ =>
            ok = true ∧ wpAny (model prog w) A (eval iter2 env) (fun x s₅ => wpAny (model prog w) A (pyIter x) (fun it2 s₆ => codeAny (model prog w) A (.compStart e (depth + 1) it2 acc env) (fun r s₇ => r = .ok .next ∧ ∃ m, m < n ∧ I m s₇) s₆) (fun _ _ => False) s₅) (fun _ _ => False) s₄) (fun _ _ => False) s₃) (fun _ _ => False) s₂) (fun _ _ => False) s₁) (fun _ _ => False) s)
    (n : Nat) (h : I n s) : codeAny (model prog w) A (.compLoop e depth it acc env) R s := by
  refine codeAny_loop hq I (fun n s hI => ?_) n h
  rw [hu]
  show wpAny _ A (denote table (.compLoop e depth it acc env)) _ _ s
  rw [hd]
  refine wpAny_noted (wpAny_mono (E := fun _ _ => False) ?_ (fun _ _ x => x) fun _ _ x => x.elim)
  rw [ht]
  refine wpAny_bind (wpAny_standAt (wpAny_bind (wpAny_mono (turn n s hI) (fun r s₁ h₁ => ?_) fun _ _ h' => h')))
  cases r with
  | none => exact wpAny_pure h₁
  | some v =>
    refine wpAny_bind (wpAny_mono h₁ (fun _ s₂ h₂ => wpAny_bind (wpAny_mono h₂ (fun _ s₃ h₃ => wpAny_bind (wpAny_mono h₃ (fun ok s₄ h₄ => ?_) fun _ _ h' => h')) fun _ _ h' => h')) fun _ _ h' => h')
    obtain ⟨rfl, h₄⟩ := h₄
    rw [if_pos rfl]
    refine wpAny_bind (wpAny_mono h₄ (fun x s₅ h₅ => wpAny_bind (wpAny_standAt (wpAny_bind (wpAny_of_eq (hs2 x) (wpAny_bind (wpAny_holding (wpAny_mono h₅ (fun it2 s₆ h₆ => ?_) fun _ _ h' => h'))))))) fun _ _ h' => h')
    refine wpAny_bind (wpAny_runOwn (codeAny_mono h₆ (fun r s₇ h₇ => ?_)))
    obtain ⟨rfl, h₇⟩ := h₇
    exact wpAny_pure ⟨rfl, h₇⟩
theorem codeAny_compStart_list1 {elt target iter ifs g0 scope pos it acc env}
    (h0 : codeAny (model prog w) A (.compLoop (.ListComp elt [g0, ⟨target, iter, ifs, 0⟩] scope pos) 1 it acc env) R s)
    (h : wpAny (model prog w) A (pyIter it) (fun it' s' => codeAny (model prog w) A (.compLoop (.ListComp elt [g0, ⟨target, iter, ifs, 0⟩] scope pos) 1 it' acc env) R s')
      (notedBy (model prog w) A env fun x s' => R (.error x) s') s) :
    codeAny (model prog w) A (.compStart (.ListComp elt [g0, ⟨target, iter, ifs, 0⟩] scope pos) 1 it acc env) R s := by
  refine codeAny_of_tree ?_
  show wpAny _ _ ((compStart (.ListComp elt [g0, ⟨target, iter, ifs, 0⟩] scope pos) 1 it acc env).onRaise (fun x => do noteFrame x env; standAt theWindowsPlace)) _ _ s
  refine wpAny_notedAt ?_
  unfold compStart
  show wpAny _ _ (ask >>= _) _ _ s
  refine wpAny_bind (wpAny_askSetting (wpAny_ite ?_))
  split
  · first
      | exact wpAny_bind (wpAny_pure (wpAny_pure (And.intro rfl h0)))
      | exact wpAny_pure (And.intro rfl h0)
  · first
      | exact wpAny_bind (wpAny_rule (wpAny_bind (wpAny_standAt (wpAny_bind (wpAny_mono h (fun it' s' h' => wpAny_pure (And.intro rfl h')) fun _ _ x => x)))))
      | (refine wpAny_bind (wpAny_rule ?_); show wpAny _ _ (standAt iter.pos >>= _) _ _ s; exact wpAny_bind (wpAny_standAt (wpAny_bind (wpAny_mono h (fun it' s' h' => wpAny_pure (And.intro rfl h')) fun _ _ x => x))))
theorem call_enum {l : Addr} {o : Obj} {items : Array Value} {n : Nat} {E : Value → Shared → Prop} {Q : Value → Shared → Prop} (hl : s.heap.get? l = some o) (hc : o.cls = .type "list") (hdat : o.data = .seq items n)
    (h : ∀ h', IsEnum h' (s.heap.objs.size + 1) s.heap.objs.size 0 .none → h'.IsListIter s.heap.objs.size l 0 → h'.objs.size = s.heap.objs.size + 2 →
      (∀ b o, s.heap.get? b = some o → h'.get? b = some o) → Q (.ref (s.heap.objs.size + 1)) { s with heap := h' }) :
    wpAny (model prog w) A (call (.type "enumerate") [.ref l]) Q E s := by
  obtain ⟨c, dct, dat, sl⟩ := o
  simp only at hc hdat
  subst hc hdat
  refine callType_new F.called_enumerate (by decide) (F.typeCall_enumerate_1 _) (F.newCall_enumerate_1 _) (fun obj => F.args_object_init_2 obj _) F.entry_enumerate_new
    (meets_enumerate_newL l items n dct sl) ⟨hl, ?_⟩
  have hz : (s.heap.push { cls := .type "list_iterator", data := .fields #[.ref l, .int 0 0] }).objs.size = s.heap.objs.size + 1 := Heap.size_push ..
  show _ ∧ _
  rw [hz]
  have he : IsEnum ((s.heap.push { cls := .type "list_iterator", data := .fields #[.ref l, .int 0 0] }).push
      { cls := .type "enumerate", data := .fields #[.none, .bool false, .ref s.heap.objs.size, rawInt 0, .none, .none] }) (s.heap.objs.size + 1) s.heap.objs.size 0 .none := by
    have := Heap.get?_push_size (s.heap.push { cls := .type "list_iterator", data := .fields #[.ref l, .int 0 0] })
      (o := { cls := .type "enumerate", data := .fields #[.none, .bool false, .ref s.heap.objs.size, rawInt 0, .none, .none] }) rfl
    rw [hz] at this; exact this
  refine ⟨⟨_, he, rfl⟩, h _ he ⟨_, Heap.get?_push_of_some _ (Heap.get?_push_size _ rfl), rfl, rfl⟩ (by rw [Heap.size_push, hz]) fun b o x => Heap.get?_push_of_some _ (Heap.get?_push_of_some _ x)⟩
end

/-! # Text WCD -/
/-! # The sources of comprehensions -/
structure ItAt (c : Fc) (ρ : List (Str × AV)) (A : Around) (outer : List Env) (s : Shared) (σ : Store) (s₂ : Shared) (σ₂ : Store) (it : Addr) (W : Addr → Prop) (target : Expr) (as : List AV) (side : Store → Prop) (St : Nat → Heap → Prop) : Prop where
  F : InFr c ρ [] A outer s₂ σ₂
  G : Good c.w c.H none s σ s₂ σ₂
  kept : ∀ b, σ₂ b = none → σ b = none
  IT : IterC c it W target as side St
  own : Own c W outer s₂.heap σ₂
  st : St 0 s₂.heap
  new : ∀ b o, s.heap.get? b = some o → ¬ W b
  self : ∀ s', (∀ b o, s₂.heap.get? b = some o → s'.heap.get? b = some o) → ∀ (Q : Value → Shared → Prop) (E : Value → Shared → Prop), Q (.ref it) s' → wpAny (model pw c.w) A (pyIter (.ref it)) Q E s'
  self2 : ∀ s', St 0 s'.heap → ∀ (Q : Value → Shared → Prop) (E : Value → Shared → Prop), Q (.ref it) s' → wpAny (model pw c.w) A (pyIter (.ref it)) Q E s'
section
variable {c : Fc} {ρ : List (Str × AV)} {P : List (Value × AV)} {σ : Store} {X : Store → Prop} {A : Around} {outer : List Env} {s : Shared}
theorem there_of (F : InFr c ρ P A outer s σ) {σ₂ : Store} {s₂ : Shared} (ok : HeapOK c.w c.H s₂.heap σ₂) (G : Good c.w c.H none s σ s₂ σ₂) (k : ∀ b, σ₂ b = none → σ b = none) : ∀ b o, s.heap.get? b = some o → ∃ o', s₂.heap.get? b = some o' := fun b o e => by
  cases q : σ₂ b with
  | none => exact ⟨o, G.evo b o e (k b q) (fun q => nomatch q)⟩
  | some cl => exact (ok.cells b cl q).1.there
theorem own_new (F : InFr c ρ P A outer s σ) {h' : Heap} {W : Addr → Prop} (hW : ∀ b, W b → (∃ o, h'.get? b = some o ∧ ¬ Tup o) ∧ σ b = none ∧ c.H.get? b = none ∧ s.heap.get? b = none) : Own c W outer h' σ :=
  ⟨fun b o hw e t => by obtain ⟨⟨o', e', n⟩, _⟩ := hW b hw; rw [e] at e'; cases e'; exact n t, fun b hw => (hW b hw).2.1, fun b hw => (hW b hw).2.2.1, fun e he L hL hw => by
    obtain ⟨⟨o, e'⟩, _⟩ := F.frameThere he hL
    rw [(hW L hw).2.2.2] at e'; cases e'⟩
theorem fresh_cell (ok : HeapOK c.w c.H s.heap σ) {b : Addr} (e : s.heap.get? b = none) : σ b = none := by
  cases q : σ b with
  | none => rfl
  | some cl => obtain ⟨o, e'⟩ := (ok.cells b cl q).1.there; rw [e] at e'; cases e'
theorem fresh_base (ok : HeapOK c.w c.H s.heap σ) {b : Addr} (e : s.heap.get? b = none) : c.H.get? b = none := by
  cases q : c.H.get? b with
  | none => rfl
  | some o => have := ok.stays b o q; rw [e] at this; cases this
/-- a list -/
theorem it_list {iter target : Expr} {t : Addr} {as : List AV} {Q' : Value → Shared → Prop} (hown : ∀ (it : Addr) (A : Around) (v : Value) (s' : Shared) (k : Nat), s'.heap.IsListIter it t k → ∀ (Q' : Unit → Shared → Prop) (E' : Value → Shared → Prop), Q' () s' → wpAny (model pw c.w) A (letOwnedTupleGo target (.ref it) v) Q' E' s')
    (F : InFr c ρ P A outer s σ) (h : Ev c ρ P iter σ (fun a σ₁ => a = .loc t ∧ σ₁ = σ) X) (sd : σ t = some (.list as))
    (k : ∀ it s₂, ItAt c ρ A outer s σ s₂ σ it (fun b => b = it) target as (fun σ => σ t = some (.list as)) (fun k h => h.IsListIter it t k) → Q' (.ref it) s₂) :
    wpAny (model pw c.w) A (eval iter c.env) (fun xv s₁ => wpAny (model pw c.w) A (pyIter xv) Q' (ExcPost c s σ outer X) s₁) (ExcPost c s σ outer X) s :=
  J.go h F (fun v a s₁ σ₁ G r ⟨e, e2⟩ => by
    subst e2 e
    obtain rfl : v = .ref t := r
    have F₁ := F.bare.stepL G
    obtain ⟨o, n, vs, g, cl, _, d, rs⟩ := cell_at F₁ sd
    have T : s₁.heap.IsList t vs.toArray := ⟨o, g, cl, n, d⟩
    refine wpAny_pyIter_list T ?_
    have G2 : Good c.w c.H none s₁ σ₁ { s₁ with heap := s₁.heap.push { cls := .type "list_iterator", data := .fields #[.ref t, .int 0 0] } } σ₁ := .keep F₁.ok ⟨rfl, rfl, rfl⟩ push_keep
    have F₂ := F₁.stepL G2
    have hit : (s₁.heap.push { cls := .type "list_iterator", data := .fields #[.ref t, .int 0 0] }).IsListIter s₁.heap.objs.size t 0 := ⟨_, Heap.get?_push_size _ rfl, rfl, rfl⟩
    have hth := there_of F F₁.ok G fun b e => e
    have hself : ∀ s' : Shared, s'.heap.IsListIter s₁.heap.objs.size t 0 → ∀ (Q : Value → Shared → Prop) (E : Value → Shared → Prop), Q (.ref s₁.heap.objs.size) s' → wpAny (model pw c.w) A (pyIter (.ref s₁.heap.objs.size)) Q E s' := fun s' hi Q E q => wpAny_pyIter_listiter hi q
    refine k _ _ ⟨F₂, G.trans G2 noneK, fun b e => e, iterC_list (hown _), own_new F₁ (fun b e => ?_), hit, fun b o e z => ?_, fun s' kk Q E q => ?_, hself⟩
    · subst e
      exact ⟨⟨_, Heap.get?_push_size _ rfl, fun t => type_ne (by decide) t.1⟩, F₁.ok.fresh, none_at_end F₁.ok.stays, get_end _⟩
    · subst z
      obtain ⟨o', e'⟩ := hth _ _ e
      exact absurd (Heap.lt_size e') (Nat.lt_irrefl _)
    · obtain ⟨o', e', c', d'⟩ := hit
      exact hself s' ⟨o', kk _ _ e', c', d'⟩ Q E q) fun _ _ x => x
/-- a range -/
theorem it_range {iter : Expr} {x : Str} {px : Pos} {n : Nat} (hn : n ≤ 2 ^ 40) {Q' : Value → Shared → Prop} (F : InFr c ρ P A outer s σ) (h : Ev c ρ P iter σ (fun a σ₁ => ∃ t, a = .loc t ∧ σ t = none ∧ σ₁ = σ.set t (.rng n)) X)
    (k : ∀ it s₂ t, σ t = none → ItAt c ρ A outer s σ s₂ (σ.set t (.rng n)) it (fun b => b = it) (.Name x px) ((List.range n).map fun k => AV.int (k : Nat)) (fun _ => True) (fun k h => IsRangeIter h it (k : Nat) ((n : Int) - (k : Nat)) 1) → Q' (.ref it) s₂) :
    wpAny (model pw c.w) A (eval iter c.env) (fun xv s₁ => wpAny (model pw c.w) A (pyIter xv) Q' (ExcPost c s σ outer X) s₁) (ExcPost c s σ outer X) s :=
  J.go h F (fun v a s₁ σ₁ G r ⟨t, e, ht, e2⟩ => by
    subst e2 e
    obtain rfl : v = .ref t := r
    have F₁ := F.bare.stepL G
    obtain ⟨tt, u, v, hr⟩ := cell_at F₁ Store.set_same
    have es : Builtin.Range.rangeSize 0 n 1 = n := by
      rw [rangeSize_one]; split <;> (first | lia | omega)
    refine wpAny_pyIter_range hr (small_one (by decide) (by decide) (by (first | lia | omega)) (by (first | lia | omega))) ?_
    rw [es]
    have G2 : Good c.w c.H none s₁ (σ.set t (.rng n)) { s₁ with heap := s₁.heap.push { cls := .type "range_iterator", data := .fields #[rawInt 0, rawInt n, rawInt 1] } } (σ.set t (.rng n)) := .keep F₁.ok ⟨rfl, rfl, rfl⟩ push_keep
    have F₂ := F₁.stepL G2
    have e0 : (n : Int) - ((0 : Nat) : Int) = n := by (first | lia | omega)
    have hit : IsRangeIter (s₁.heap.push { cls := .type "range_iterator", data := .fields #[rawInt 0, rawInt n, rawInt 1] }) s₁.heap.objs.size ((0 : Nat) : Int) ((n : Int) - ((0 : Nat) : Int)) 1 := by
      rw [e0]; exact Heap.get?_push_size _ rfl
    have kp : ∀ b, (σ.set t (.rng n)) b = none → σ b = none := fun b e => by
      cases q : σ b with
      | none => rfl
      | some cl => rw [Store.set_ne (fun z => by rw [z, ht] at q; cases q), q] at e; cases e
    have hth := there_of F F₁.ok G kp
    have hself : ∀ s' : Shared, IsRangeIter s'.heap s₁.heap.objs.size ((0 : Nat) : Int) ((n : Int) - ((0 : Nat) : Int)) 1 → ∀ (Q : Value → Shared → Prop) (E : Value → Shared → Prop), Q (.ref s₁.heap.objs.size) s' → wpAny (model pw c.w) A (pyIter (.ref s₁.heap.objs.size)) Q E s' := fun s' hi Q E q => wpAny_pyIter_rangeiter hi q
    refine k _ _ t ht ⟨F₂, G.trans G2 noneK, kp, iterC_range, own_new F₁ (fun b e => ?_), hit, fun b o e z => ?_, fun s' kk Q E q => ?_, hself⟩
    · subst e
      exact ⟨⟨_, Heap.get?_push_size _ rfl, fun t => type_ne (by decide) t.1⟩, F₁.ok.fresh, none_at_end F₁.ok.stays, get_end _⟩
    · subst z
      obtain ⟨o', e'⟩ := hth _ _ e
      exact absurd (Heap.lt_size e') (Nat.lt_irrefl _)
    · exact hself s' (kk _ _ hit) Q E q) fun _ _ x => x
/-- `enumerate` of a list -/
theorem it_enum {p px pos : Pos} {x : Str} {t : Addr} {as : List AV} {elts : List Expr} {kk : Nat} {tp : Pos} {Q' : Value → Shared → Prop} (hx : c.glo.contains "enumerate" = true) (F : InFr c ρ P A outer s σ) (hv : ρ.lookup x = some (.loc t)) (sd : σ t = some (.list as)) (hd : (x == ("__debug__" : Str)) = false)
    (k : ∀ it e s₂, ItAt c ρ A outer s σ s₂ σ e (fun b => b = e ∨ b = it) (.Tuple elts kk tp) (enumAV as) (fun σ => σ t = some (.list as)) (fun k h => ∃ old, IsEnum h e it (k : Nat) old ∧ h.IsListIter it t k) → Q' (.ref e) s₂)
    (he : eval (.Call (.Name "enumerate" p) [.Name x px] [] pos) c.env = (do callWith pos (← eval (.Name "enumerate" p) c.env) [] (backTo pos (starEach [.Name x px] c.env)) (backToKw pos (keywordEach [] c.env))) := by rfl) :
    wpAny (model pw c.w) A (eval (.Call (.Name "enumerate" p) [.Name x px] [] pos) c.env) (fun xv s₁ => wpAny (model pw c.w) A (pyIter xv) Q' (ExcPost c s σ outer X) s₁) (ExcPost c s σ outer X) s := by
  refine Call_ (J.go (Q := fun a σ₁ => a = .val (.type "enumerate") ∧ σ₁ = σ) (X := X) (E_bi (P := P) hx (by decide) (by decide +kernel) ⟨rfl, rfl⟩) F (fun v a s₁ σ₁ G r ⟨e, e2⟩ => ?_) fun _ _ x => x) he
  subst e2 e
  obtain rfl : v = .type "enumerate" := r
  have F₁ := F.step G (P' := P) fun p hp => .inl hp
  have h2 := J.go (Q := fun a σ₂ => a = AV.loc t ∧ σ₂ = σ₁) (X := X) (E_loc (P := P) (pos := px) hv ⟨rfl, rfl⟩ hd) F₁ (Q' := fun u s₂ => wpAny (model pw c.w) A (call (.type "enumerate") ([] ++ [u])) (fun xv s₁ => wpAny (model pw c.w) A (pyIter xv) Q' (ExcPost c s σ₁ outer X) s₁) (ExcPost c s σ₁ outer X) s₂) (E' := ExcPost c s σ₁ outer X) (fun u a s₂ σ₂ G2 r2 ⟨e, e2⟩ => ?_) (ExcPost.up G)
  · refine PySem.callWith_type (star_any (by rfl)) ?_
    rw [starEach_cons' (by rfl)]
    exact evalArgs_plain (args_cons (wpAny_mono h2 (fun u s₂ hu => args_nil hu) fun _ _ x => x) (by rfl))
  · subst e2 e
    obtain rfl : u = .ref t := r2
    have F₂ := F₁.bare.stepL G2
    have GG := G.trans G2 noneK
    obtain ⟨o, n, vs, g, cl, _, d, rs⟩ := cell_at F₂ sd
    refine call_enum g cl d fun h' he hit hsz hk => ?_
    refine wpAny_pyIter_enum he ?_
    have G3 : Good c.w c.H none s₂ σ₂ { s₂ with heap := h' } σ₂ := .keep F₂.ok ⟨rfl, rfl, rfl⟩ hk
    have F₃ := F₂.stepL G3
    have hth := there_of F F₂.ok GG fun b e => e
    have e1 : s₂.heap.get? (s₂.heap.objs.size + 1) = none := Heap.get?_none_of_le (Nat.le_succ _)
    have hself : ∀ s' : Shared, (∃ old, IsEnum s'.heap (s₂.heap.objs.size + 1) s₂.heap.objs.size ((0 : Nat) : Int) old ∧ s'.heap.IsListIter s₂.heap.objs.size t 0) → ∀ (Q : Value → Shared → Prop) (E : Value → Shared → Prop), Q (.ref (s₂.heap.objs.size + 1)) s' → wpAny (model pw c.w) A (pyIter (.ref (s₂.heap.objs.size + 1))) Q E s' := fun s' ⟨_, hi, _⟩ Q E q => wpAny_pyIter_enum hi q
    refine k _ _ _ ⟨F₃, GG.trans G3 noneK, fun b e => e, iterC_enum (Nat.ne_of_gt (Nat.lt_succ_self _)), own_new F₂ (fun b e => ?_), ⟨_, he, hit⟩, fun b o e z => ?_, fun s' kk Q E q => ?_, hself⟩
    · rcases e with e | e
      · subst e
        exact ⟨⟨_, he, fun t => type_ne (by decide) t.1⟩, fresh_cell F₂.ok e1, fresh_base F₂.ok e1, e1⟩
      · subst e
        obtain ⟨o', e', c', _⟩ := hit
        exact ⟨⟨o', e', fun t => type_ne (by decide) (t.1.symm.trans c')⟩, F₂.ok.fresh, none_at_end F₂.ok.stays, get_end _⟩
    · obtain ⟨o', e'⟩ := hth _ _ e
      have h1 : b < s₂.heap.objs.size := Heap.lt_size e'
      have z : b = s₂.heap.objs.size + 1 ∨ b = s₂.heap.objs.size := z
      rcases z with z | z
      · rw [z] at h1; exact absurd h1 (Nat.not_lt.mpr (Nat.le_succ _))
      · rw [z] at h1; exact absurd h1 (Nat.lt_irrefl _)
    · obtain ⟨o', e', c', d'⟩ := hit
      exact hself s' ⟨_, kk _ _ he, o', kk _ _ e', c', d'⟩ Q E q
/-- the loop of a comprehension with one clause -/
theorem lc_core {elt target iter : Expr} {ifs : List Expr} {scope : Scope} {pos : Pos} {cl : List (Str × Addr)} {it : Addr} {W : Addr → Prop} {as : List AV} {side : Store → Prop} {St : Nat → Heap → Prop} {s₂ : Shared} {σ₂ : Store} {Q : AV → Store → Prop}
    (I : ItAt c ρ A outer s σ s₂ σ₂ it W target as side St) (F : InFr c ρ P A outer s σ) (ρ₁ : AV → List (Str × AV)) (tgt : ∀ C, ∀ a ∈ as, ∀ σ', TgtC c ρ [] C (compEnvC scope cl C c.env) target a σ' (ρ₁ a))
    (J : Addr → Nat → List AV → Store → Prop) (hside : ∀ D k l σ', J D k l σ' → side σ') (j0 : ∀ D, σ₂ D = none → J D 0 [] (σ₂.set D (.list [])))
    (turn : ∀ D C k a l σ', as[k]? = some a → J D k l σ' → σ' D = some (.list l) → TsC c ρ (ρ₁ a) C (compEnvC scope cl C c.env) ifs σ' (fun ok σ₁ => if ok = true then EvC c ρ (ρ₁ a) C (compEnvC scope cl C c.env) elt σ₁ (fun b σ₂ => σ₂ D = some (.list l) ∧ l.length ≤ sizeLine ∧ J D (k + 1) (l ++ [b]) (σ₂.set D (.list (l ++ [b])))) else σ₁ D = some (.list l) ∧ J D (k + 1) l σ₁))
    (fin : ∀ D σ' l, J D as.length l σ' → σ' D = some (.list l) → Q (.loc D) σ')
    (hq : ∀ D C, (Code.compLoop (.ListComp elt [⟨target, iter, ifs, 0⟩] scope pos) 0 (.ref it) (.ref D) (compEnvC scope cl C c.env)).quiet = true)
    (hu : ∀ D C, A.under (.compLoop (.ListComp elt [⟨target, iter, ifs, 0⟩] scope pos) 0 (.ref it) (.ref D) (compEnvC scope cl C c.env)) = A)
    (hd : ∀ D C, denote table (.compLoop (.ListComp elt [⟨target, iter, ifs, 0⟩] scope pos) 0 (.ref it) (.ref D) (compEnvC scope cl C c.env)) = (compTurn (.ListComp elt [⟨target, iter, ifs, 0⟩] scope pos) 0 (.ref it) (.ref D) (compEnvC scope cl C c.env)).onRaise (fun x => do noteFrame x (compEnvC scope cl C c.env); theTreesLotGoes x))
    (ht : ∀ D C, Emits (.ListComp elt [⟨target, iter, ifs, 0⟩] scope pos) 0 iter.pos target ifs elt (.ref it) (.ref D) (compEnvC scope cl C c.env)) :
    ∀ s₄ D C, D ≠ C → CF c ρ [] C A outer s₄ (σ₂.set D (.list [])) → Good c.w c.H none s₂ σ₂ s₄ (σ₂.set D (.list [])) → (∀ b o, s₂.heap.get? b = some o → s₄.heap.get? b = some o) → s₂.heap.get? D = none → s₂.heap.get? C = none → σ₂ D = none →
      codeAny (model pw c.w) A (.compLoop (.ListComp elt [⟨target, iter, ifs, 0⟩] scope pos) 0 (.ref it) (.ref D) (compEnvC scope cl C c.env)) (CompEnd c ρ A outer s σ Q (.ref D) C) s₄ := fun s₄ D C hDC CF4 G4 k4 hD hC hσ => by
  have hth := there_of F I.F.ok I.G I.kept
  have inC : ∀ b o, s.heap.get? b = some o → b ≠ C := fun b o e z => by
    obtain ⟨o', e'⟩ := hth b o e; rw [z, hC] at e'; cases e'
  have wth := I.IT.own I.st
  have st4 : St 0 s₄.heap := I.IT.keeps I.st fun b o e _ => k4 b o e
  have own4 : Own c W outer s₄.heap (σ₂.set D (.list [])) := by
    refine ⟨fun b o hw e => ?_, fun b hw => ?_, I.own.base, I.own.fr⟩
    · obtain ⟨o', e', t'⟩ := wth b hw
      rw [k4 _ _ e'] at e; cases e; exact t'
    · obtain ⟨o', e', _⟩ := wth b hw
      rw [Store.set_ne fun z => by rw [z, hD] at e'; cases e']; exact I.own.out b hw
  have hWC : ¬ W C := fun hw => by obtain ⟨o', e', _⟩ := wth C hw; rw [hC] at e'; cases e'
  refine emit_list (ρ₀ := []) (l0 := []) (hq D C) (hu D C) (hd D C) (ht D C) I.IT (J D) (hside D) hWC ρ₁ (fun a ha => trivial) (tgt C) (fun k a l σ' ha hj hs => turn D C k a l σ' ha hj hs) CF4 (I.G.trans G4 noneK) (fun b o e n => ⟨I.new b o e, inC b o e⟩) own4 st4 (j0 D hσ) Store.set_same fun s' σ' l CF' G' kp hj hs => ?_
  refine ⟨rfl, D, σ', rfl, CF', G', ?_, fin D σ' l hj hs⟩
  cases q : s.heap.get? C with
  | none => rfl
  | some o => exact absurd rfl (inC C o q)
end

/-! # Text WCE -/
/-! # Dicts in the calculus -/
theorem pairs_of {h : Heap} : ∀ {vs : List Value} {ps : List (Str × AV)}, VRels h vs (ps.map fun p => AV.tup [.str p.1, p.2]) → ∃ l : List (Str × Value), l.map (·.1) = ps.map (·.1) ∧ VRels h (l.map (·.2)) (ps.map (·.2)) ∧ vs.length = l.length ∧
    ∀ (j : Nat) (p : Str × Value), l[j]? = some p → ∃ T t, vs[j]? = some (.ref T) ∧ IsTup h T #[.str p.1 t, p.2]
  | _, [], e => by cases e; exact ⟨[], rfl, rfl, rfl, fun j p hj => by simp at hj⟩
  | _, (k, a) :: ps, ⟨x, xs, e, ⟨T, o, n, us, ex, g, c, d, r⟩, rs⟩ => by
    subst e ex
    obtain ⟨l, e1, e2, e3, e4⟩ := pairs_of rs
    obtain ⟨u1, u2, eu, ⟨t, et⟩, r2⟩ := vrels2 r
    subst eu et
    refine ⟨(k, u2) :: l, by rw [List.map_cons, List.map_cons, e1], ⟨u2, _, rfl, r2, e2⟩, by simp [e3], fun j p hj => ?_⟩
    cases j with
    | zero => cases hj; exact ⟨T, t, rfl, o, g, c, n, d⟩
    | succ j => exact e4 j p hj
theorem valueAt_of {h : Heap} {k : Str} {av : AV} : ∀ {kvs : List (Str × Value)} {ps : List (Str × AV)}, kvs.map (·.1) = ps.map (·.1) → VRels h (kvs.map (·.2)) (ps.map (·.2)) → ps.lookup k = some av → ∃ v, valueAt kvs k = some v ∧ VRel h v av
  | [], [], _, _, e => by cases e
  | [], _ :: _, e, _, _ => by cases e
  | _ :: _, [], e, _, _ => by cases e
  | (k1, v1) :: kvs, (k2, a2) :: ps, e, ⟨x, xs, ex, r, rs⟩, hl => by
    rw [List.map_cons, List.map_cons, List.cons.injEq] at e
    obtain ⟨e1, e2⟩ := e
    have e1 : k1 = k2 := e1
    subst e1
    rw [List.map_cons, List.cons.injEq] at ex
    obtain ⟨ex1, ex2⟩ := ex
    subst ex2
    have ex1 : v1 = x := ex1
    subst ex1
    rw [List.lookup_cons] at hl
    unfold valueAt
    rw [List.find?_cons]
    cases q : k == k1 with
    | true =>
      rw [q] at hl; cases hl
      have := eq_of_beq q
      subst this
      exact ⟨v1, by simp, r⟩
    | false =>
      rw [q] at hl
      obtain ⟨v, e3, e4⟩ := valueAt_of e2 rs hl
      have hne : ¬ (k1 = k) := fun z => by rw [z] at q; simp at q
      simp only [hne, decide_false]
      exact ⟨v, e3, e4⟩
section
variable {c : Fc} {ρ : List (Str × AV)} {P : List (Value × AV)} {σ : Store} {X : Store → Prop} {Q : AV → Store → Prop}
theorem InFr.notModules {A : Around} {outer : List Env} {s : Shared} (F : InFr c ρ P A outer s σ) : (s.heap.objs.size == sysModules) = false := by
  have hl : mainGlobals < s.heap.objs.size := (F.base.g.keeps F.ok.stays).lt
  have : sysModules < mainGlobals := by decide
  exact beq_eq_false_iff_ne.mpr (Nat.ne_of_gt (Nat.lt_trans this hl))
theorem call_dictP {D : Addr} {ps : List (Str × AV)} (sD : σ D = some (.list (ps.map fun p => .tup [.str p.1, p.2]))) (hn : (ps.map (·.1)).Nodup) (hz : ps.length ≤ 1000) (q : ∀ M, σ M = none → Q (.loc M) (σ.set M (.dict ps))) : CallJ c ρ (.type "dict") [.loc D] σ Q X := fun A outer s vals F rs => by
  obtain ⟨v, rfl, r⟩ := vrels1 rs
  obtain rfl : v = .ref D := r
  obtain ⟨o, n, vs, g, cl, dn, d, rs⟩ := cell_at F sD
  obtain ⟨l, e1, e2, e3, e4⟩ := pairs_of rs
  have hl : l.length = ps.length := by have := congrArg List.length e1; simpa using this
  refine call_dict_pairs (items := vs.toArray) (l := l) F.handled g cl dn d (fun j p hj => ?_) (by rw [List.size_toArray, e3]) (by rw [e1]; exact hn) (by (first | lia | omega)) fun h' tk hk hd => ?_
  · obtain ⟨T, t, h1, h2⟩ := e4 j p hj
    exact ⟨T, t, by simpa using h1, h2⟩
  · exact ⟨.loc s.heap.objs.size, _, .alloc (s' := { s with heap := h', toks := tk }) F.ok ⟨rfl, rfl, rfl⟩ hk (get_end _) (none_at_end F.ok.stays) (cl := .dict ps) ⟨l, hd, e1, e2.mono (fun b o e _ => hk b o e) _, F.notModules⟩ (fun _ _ _ q => nomatch q), rfl, q _ F.ok.fresh⟩
theorem call_listD {D : Addr} {ps : List (Str × AV)} (sD : σ D = some (.dict ps)) (hz : ps.length ≤ 1000) (q : ∀ M, σ M = none → Q (.loc M) (σ.set M (.list (ps.map fun p => .str p.1)))) : CallJ c ρ (.type "list") [.loc D] σ Q X := fun A outer s vals F rs => by
  obtain ⟨v, rfl, r⟩ := vrels1 rs
  obtain rfl : v = .ref D := r
  obtain ⟨kvs, hd, e1, e2, lo⟩ := cell_at F sD
  obtain ⟨ep, hm⟩ := hd.dictAt
  have hl : kvs.length = ps.length := by have := congrArg List.length e1; simpa using this
  refine kdl_call (kdl_dict (knd := strKind pw c.w) (kvs := kvs) lo) F.handled hm (by rw [sizeLine_eq]; (first | lia | omega)) fun h' tk acc' c' hk hS hacc => ?_
  refine ⟨.loc s.heap.objs.size, _, .alloc (s' := { s with heap := h', toks := tk }) F.ok ⟨rfl, rfl, rfl⟩ hk (get_end _) (none_at_end F.ok.stays) (cl := .list (ps.map fun p => .str p.1)) ⟨_, _, acc'.toList, hS, rfl, rfl, by rw [Array.toArray_toList], ?_⟩ (fun _ _ _ q => nomatch q), rfl, q _ F.ok.fresh⟩
  have key : ∀ (kvs : List (Str × Value)) (ps : List (Str × AV)) (acc : List Value), kvs.map (·.1) = ps.map (·.1) → acc.length = kvs.length → (∀ (j : Nat) (v : Value), acc[j]? = some v → ∃ k x, kvs[j]? = some (k, x) ∧ (strKind pw c.w).is k v = true) → VRels h' acc (ps.map fun p => .str p.1) := by
    intro kvs
    induction kvs with
    | nil =>
      intro ps acc e hlen _
      cases ps with
      | nil => cases acc with
        | nil => rfl
        | cons _ _ => cases hlen
      | cons _ _ => cases e
    | cons kv kvs ih =>
      intro ps acc e hlen hi
      cases ps with
      | nil => cases e
      | cons p ps =>
        cases acc with
        | nil => cases hlen
        | cons a acc =>
          rw [List.map_cons, List.map_cons, List.cons.injEq] at e
          obtain ⟨k, x, h1, h2⟩ := hi 0 a rfl
          cases h1
          obtain ⟨t, ht⟩ := Value.isStrOf_shape h2
          refine ⟨a, acc, rfl, ⟨t, by rw [ht]; exact congrArg (fun z => Value.str z t) e.1⟩, ih ps acc e.2 (by simpa using hlen) fun j v hj => hi (j + 1) v hj⟩
  exact key kvs ps acc'.toList e1 (by rw [Array.length_toList]; exact hacc.1) fun j v hj => hacc.2 j v (by rw [← Array.getElem?_toList]; exact hj)
theorem sub_dict {slice : Expr} {D : Addr} {ps : List (Str × AV)} {k : Str} {a : AV} (hs : Plain slice) (sD : σ D = some (.dict ps)) (hl : ps.lookup k = some a) (q : Q a σ) : SubJ c ρ slice (.loc D) (.str k) σ Q := fun x y P value hx hy X =>
  J.still (a' := a) (fun A outer s F _ _ h => by
    obtain rfl : x = .ref D := F.pend _ hx
    obtain ⟨t, rfl⟩ := F.pend _ hy
    obtain ⟨kvs, hd, e1, e2, lo⟩ := cell_at F sD
    obtain ⟨v, e, r⟩ := valueAt_of e1 e2 hl
    obtain ⟨ops, hs⟩ := hs (.ref D) (.str k t)
    exact tail_any hd.typeIs slot_dict_getitem.lookup (wpAny_getItem_of (strKind_is _ _ k t) hd.mapOf e (h v _ r)) hs) q
/-! ## Lists of texts, displayed -/
noncomputable def strE : Expr → Option Str
  | .Constant (.str x) _ _ => some x
  | _ => none
noncomputable def strsE : List Expr → Option (List Str)
  | [] => some []
  | e :: es => match strE e, strsE es with
    | some x, some xs => some (x :: xs)
    | _, _ => none
noncomputable def rowsE : List Expr → Option (List (List Str))
  | [] => some []
  | e :: es => match e with
    | .List xs _ => match strsE xs, rowsE es with
      | some r, some rs => some (r :: rs)
      | _, _ => none
    | _ => none
theorem Evs_strs {pos : Pos} {Q : List AV → Store → Prop} : ∀ {es : List Expr} {xs : List Str}, strsE es = some xs → Q (xs.map .str) σ → Evs c ρ P pos es σ Q X
  | [], xs, h, q => by cases h; exact Evs_nil q
  | e :: es, xs, h, q => by
    unfold strsE at h
    split at h
    · rename_i x xs' h1 h2
      cases h
      unfold strE at h1
      split at h1
      · cases h1
        exact Evs_cons (E_str (Evs_strs (Q := fun as σ₂ => Q (.str x :: as) σ₂) h2 q)) (starEach_cons' rfl)
      · cases h1
    · cases h
theorem strsE_len : ∀ {es : List Expr} {xs : List Str}, strsE es = some xs → es.length = xs.length
  | [], xs, h => by cases h; rfl
  | e :: es, xs, h => by
    unfold strsE at h
    split at h
    · rename_i x xs' h1 h2
      cases h
      simp [strsE_len h2]
    · cases h
/-- the rows of a table, each a list -/
noncomputable def RowsAt (σ : Store) (Rs : List Addr) (rows : List (List Str)) : Prop := Rs.length = rows.length ∧ ∀ (i : Nat) (R : Addr) (r : List Str), Rs[i]? = some R → rows[i]? = some r → σ R = some (.list (r.map .str))
theorem Evs_rows {pos : Pos} : ∀ {es : List Expr} {rows : List (List Str)} {σ : Store} {Q : List AV → Store → Prop}, rowsE es = some rows → (∀ r ∈ rows, r.length ≤ 1000) → (∀ σ' Rs, (∀ a cl, σ a = some cl → σ' a = some cl) → RowsAt σ' Rs rows → Q (Rs.map .loc) σ') → Evs c ρ P pos es σ Q X
  | [], rows, σ, Q, h, _, q => by cases h; exact Evs_nil (q σ [] (fun _ _ e => e) ⟨rfl, fun i R r e => by simp at e⟩)
  | e :: es, rows, σ, Q, h, hz, q => by
    unfold rowsE at h
    split at h
    · rename_i xs px
      split at h
      · rename_i r rs h1 h2
        cases h
        refine Evs_cons (E_list (Evs_strs h1 fun R hR => ?_) (by rw [strsE_len h1]; exact hz r (.head _))) (starEach_cons' rfl)
        have k1 : ∀ a cl, σ a = some cl → (σ.set R (.list (r.map .str))) a = some cl := fun a cl e => (Store.set_ne fun z => by rw [z, hR] at e; cases e).trans e
        refine Evs_rows h2 (fun r hr => hz r (.tail _ hr)) fun σ' Rs kp at' => q σ' (R :: Rs) (fun a cl e => kp a cl (k1 a cl e)) ⟨by simp [at'.1], fun i R' r' e1 e2 => ?_⟩
        cases i with
        | zero => cases e1; cases e2; exact kp _ _ Store.set_same
        | succ i => exact at'.2 i R' r' e1 e2
      · cases h
    · cases h
end

/-! # Text WCF -/
/-! # The law's levels -/
noncomputable def emitted (rows : List (List Str)) (k : Nat) : List AV := (List.range k).flatMap fun i => (rows.getD i []).map fun op => AV.tup [.str op, .int (i : Nat)]
theorem emitted_succ (rows : List (List Str)) (k : Nat) : emitted rows (k + 1) = emitted rows k ++ (rows.getD k []).map fun op => AV.tup [.str op, .int (k : Nat)] := by
  unfold emitted
  rw [List.range_succ, List.flatMap_append]
  simp
section
variable {c : Fc} {ρ : List (Str × AV)} {P : List (Value × AV)} {σ : Store} {X : Store → Prop} {A : Around} {outer : List Env} {s : Shared}
theorem nest_levels {at_ row op : Str} {pa pr po px po' pa' ptup pelt pos : Pos} {k1 k2 : Nat} {iter : Expr} {scope : Scope} {cl : List (Str × Addr)} {it : Addr} {W : Addr → Prop} {St : Nat → Heap → Prop} {s₂ : Shared} {Q : AV → Store → Prop} {t : Addr} {Rs : List Addr} {rows : List (List Str)}
    (I : ItAt c ρ A outer s σ s₂ σ it W (.Tuple [.Name at_ pa, .Name row pr] k1 ptup) (enumAV (Rs.map .loc)) (fun σ => σ t = some (.list (Rs.map .loc))) St) (F : InFr c ρ P A outer s σ) (ht : σ t = some (.list (Rs.map .loc))) (hR : RowsAt σ Rs rows) (hz : (emitted rows rows.length).length ≤ 1000)
    (n1 : scope.names.lookup at_ = some .local) (n2 : scope.names.lookup row = some .local) (n3 : scope.names.lookup op = some .local) (hk : scope.kind = .function) (d1 : (at_ == ("__debug__" : Str)) = false) (d2 : (row == ("__debug__" : Str)) = false) (d3 : (op == ("__debug__" : Str)) = false)
    (m1 : (at_ == row) = false) (m2 : (at_ == op) = false) (m3 : (row == op) = false)
    (fin : ∀ D, σ D = none → Q (.loc D) (σ.set D (.list (emitted rows rows.length))))
    (hq : ∀ D C d it, (Code.compLoop (.ListComp (.Tuple [.Name op po', .Name at_ pa'] k2 pelt) [⟨.Tuple [.Name at_ pa, .Name row pr] k1 ptup, iter, [], 0⟩, ⟨.Name op po, .Name row px, [], 0⟩] scope pos) d (.ref it) (.ref D) (compEnvC scope cl C c.env)).quiet = true)
    (hu : ∀ D C d it, A.under (.compLoop (.ListComp (.Tuple [.Name op po', .Name at_ pa'] k2 pelt) [⟨.Tuple [.Name at_ pa, .Name row pr] k1 ptup, iter, [], 0⟩, ⟨.Name op po, .Name row px, [], 0⟩] scope pos) d (.ref it) (.ref D) (compEnvC scope cl C c.env)) = A)
    (hd : ∀ D C d it, denote table (.compLoop (.ListComp (.Tuple [.Name op po', .Name at_ pa'] k2 pelt) [⟨.Tuple [.Name at_ pa, .Name row pr] k1 ptup, iter, [], 0⟩, ⟨.Name op po, .Name row px, [], 0⟩] scope pos) d (.ref it) (.ref D) (compEnvC scope cl C c.env)) = (compTurn (.ListComp (.Tuple [.Name op po', .Name at_ pa'] k2 pelt) [⟨.Tuple [.Name at_ pa, .Name row pr] k1 ptup, iter, [], 0⟩, ⟨.Name op po, .Name row px, [], 0⟩] scope pos) d (.ref it) (.ref D) (compEnvC scope cl C c.env)).onRaise (fun x => do noteFrame x (compEnvC scope cl C c.env); theTreesLotGoes x))
    (hn : ∀ D C, Nests (.ListComp (.Tuple [.Name op po', .Name at_ pa'] k2 pelt) [⟨.Tuple [.Name at_ pa, .Name row pr] k1 ptup, iter, [], 0⟩, ⟨.Name op po, .Name row px, [], 0⟩] scope pos) 0 iter.pos (.Tuple [.Name at_ pa, .Name row pr] k1 ptup) [] (.Name row px) (.ref it) (.ref D) (compEnvC scope cl C c.env))
    (he : ∀ D C it2, Emits (.ListComp (.Tuple [.Name op po', .Name at_ pa'] k2 pelt) [⟨.Tuple [.Name at_ pa, .Name row pr] k1 ptup, iter, [], 0⟩, ⟨.Name op po, .Name row px, [], 0⟩] scope pos) 1 px (.Name op po) [] (.Tuple [.Name op po', .Name at_ pa'] k2 pelt) (.ref it2) (.ref D) (compEnvC scope cl C c.env)) :
    ∀ s₄ D C, D ≠ C → CF c ρ [] C A outer s₄ (σ.set D (.list [])) → Good c.w c.H none s₂ σ s₄ (σ.set D (.list [])) → (∀ b o, s₂.heap.get? b = some o → s₄.heap.get? b = some o) → s₂.heap.get? D = none → s₂.heap.get? C = none → σ D = none →
      codeAny (model pw c.w) A (.compLoop (.ListComp (.Tuple [.Name op po', .Name at_ pa'] k2 pelt) [⟨.Tuple [.Name at_ pa, .Name row pr] k1 ptup, iter, [], 0⟩, ⟨.Name op po, .Name row px, [], 0⟩] scope pos) 0 (.ref it) (.ref D) (compEnvC scope cl C c.env)) (CompEnd c ρ A outer s σ Q (.ref D) C) s₄ := fun s₄ D C hDC CF4 G4 k4 hD hC hσ => by
  have hth := there_of F I.F.ok I.G I.kept
  have inC : ∀ b o, s.heap.get? b = some o → b ≠ C := fun b o e z => by
    obtain ⟨o', e'⟩ := hth b o e; rw [z, hC] at e'; cases e'
  have sC : s.heap.get? C = none := by
    cases q : s.heap.get? C with
    | none => rfl
    | some o => exact absurd rfl (inC C o q)
  have wth := I.IT.own I.st
  have st4 : St 0 s₄.heap := I.IT.keeps I.st fun b o e _ => k4 b o e
  have own4 : Own c W outer s₄.heap (σ.set D (.list [])) := by
    refine ⟨fun b o hw e => ?_, fun b hw => ?_, I.own.base, I.own.fr⟩
    · obtain ⟨o', e', t'⟩ := wth b hw
      rw [k4 _ _ e'] at e; cases e; exact t'
    · obtain ⟨o', e', _⟩ := wth b hw
      rw [Store.set_ne fun z => by rw [z, hD] at e'; cases e']; exact I.own.out b hw
  have hWC : ¬ W C := fun hw => by obtain ⟨o', e', _⟩ := wth C hw; rw [hC] at e'; cases e'
  have has : ∀ k a, (enumAV (Rs.map .loc))[k]? = some a → ∃ R, Rs[k]? = some R ∧ a = AV.tup [.int (k : Nat), .loc R] := fun k a ha => by
    unfold enumAV at ha
    rw [List.getElem?_map, List.getElem?_zipIdx, List.getElem?_map] at ha
    cases hr : Rs[k]? with
    | none => rw [hr] at ha; cases ha
    | some R => rw [hr] at ha; simp at ha; exact ⟨R, rfl, ha.symm⟩
  have hlen : (enumAV (Rs.map .loc)).length = rows.length := by unfold enumAV; simp [hR.1]
  have kD : ∀ {σ' : Store}, (∀ b, b ≠ D → σ' b = σ b) → ∀ a cl, σ a = some cl → σ' a = some cl := fun {σ'} h a cl e => (h a fun z => by rw [z, hσ] at e; cases e).trans e
  let J : Nat → Shared → Prop := fun n s' => ∃ k σ', n + k = rows.length + 1 ∧ k ≤ rows.length ∧ CF c ρ [] C A outer s' σ' ∧ Good c.w c.H none s σ s' σ' ∧ Own c W outer s'.heap σ' ∧ St k s'.heap ∧ σ' D = some (.list (emitted rows k)) ∧ (∀ b, b ≠ D → σ' b = σ b)
  refine nest_loop (hq D C 0 it) (hu D C 0 it) (hd D C 0 it) (hn D C) (fun _ => rfl) J (fun n s' ⟨k, σ', hnk, hkl, F', G', O', st', sD', ext'⟩ => ?_) (rows.length + 1) ⟨0, _, by (first | lia | omega), by (first | lia | omega), CF4, I.G.trans G4 noneK, own4, st4, Store.set_same, fun b hb => Store.set_ne hb⟩
  have sd' : σ' t = some (.list (Rs.map .loc)) := kD ext' _ _ ht
  cases ha : (enumAV (Rs.map .loc))[k]? with
  | none =>
    refine I.IT.stop F'.F O' sd' st' ha fun h' tk kh => ?_
    have hk' : k = rows.length := by
      have h1 := List.getElem?_eq_none_iff.mp ha
      (first | lia | omega)
    subst hk'
    have F2 := F'.change (tk := tk) O' hWC kh
    refine ⟨rfl, D, σ', rfl, F2, G'.own F2.F.ok kh fun b o e n => I.new b o e, sC, ?_⟩
    have := fin D hσ
    have es : σ' = σ.set D (.list (emitted rows rows.length)) := funext fun b => by
      by_cases z : b = D
      · rw [z, sD', Store.set_same]
      · rw [ext' b z, Store.set_ne z]
    rw [es]; exact this
  | some a =>
    obtain ⟨R, hRk, rfl⟩ := has k a ha
    have hlt : k < rows.length := by have := (List.getElem?_eq_some_iff.mp hRk).1; rw [hR.1] at this; exact this
    have hrow : rows[k]? = some (rows.getD k []) := by rw [List.getD_eq_getElem?_getD, List.getElem?_eq_getElem hlt]; rfl
    obtain ⟨r, er⟩ : ∃ r, r = rows.getD k [] := ⟨_, rfl⟩
    rw [← er] at hrow
    have sR : σ R = some (.list (r.map .str)) := hR.2 k R r hRk hrow
    refine wpAny_mono (I.IT.next (Q := fun v s₂ => wpAny (model pw c.w) A (assign (.Tuple [.Name at_ pa, .Name row pr] k1 ptup) (compEnvC scope cl C c.env) v) (fun _ s₃ => wpAny (model pw c.w) A (testsOf [] (compEnvC scope cl C c.env)) (fun ok s₄ =>
            ok = true ∧ wpAny (model pw c.w) A (eval (.Name row px) (compEnvC scope cl C c.env)) (fun x s₅ => wpAny (model pw c.w) A (pyIter x) (fun it2 s₆ => codeAny (model pw c.w) A (.compStart (.ListComp (.Tuple [.Name op po', .Name at_ pa'] k2 pelt) [⟨.Tuple [.Name at_ pa, .Name row pr] k1 ptup, iter, [], 0⟩, ⟨.Name op po, .Name row px, [], 0⟩] scope pos) (0 + 1) it2 (.ref D) (compEnvC scope cl C c.env)) (fun r s₇ => r = .ok .next ∧ ∃ m, m < n ∧ J m s₇) s₆) (fun _ _ => False) s₅) (fun _ _ => False) s₄) (fun _ _ => False) s₃) (fun _ _ => False) s₂) F'.F O' sd' st' ha fun v h' tk kh rv st2 => ?_) (fun r s₁ ⟨v, er, hv⟩ => by subst er; exact hv) fun _ _ x => x
    have F2 := F'.change (tk := tk) O' hWC kh
    have G2 := G'.own (tk := tk) F2.F.ok kh fun b o e n => I.new b o e
    refine tgtC_pair n1 n2 hk A outer _ v F2 rv _ _ fun h3 tk3 F3 k3 => ?_
    have G3 := G2.own (W := fun b => b = C) (tk := tk3) F3.F.ok k3 fun b o e n => inC b o e
    have notC : ∀ o, h'.get? C = some o → ¬ Tup o := fun o e t => by
      obtain ⟨m, hn', _⟩ := F2.ns; obtain ⟨o', e', t'⟩ := ns_notTup hn'; rw [e] at e'; cases e'; exact t' t
    have st3 : St (k + 1) h3 := I.IT.keeps st2 fun b o e q => k3 b o (fun z => by
      subst z
      rcases q with q | t
      · exact hWC q
      · exact notC o e t) e
    refine wpAny_tests_nil ⟨rfl, ?_⟩
    have kr : (compEnvC scope cl C c.env).kindOf row = some .local := lookup_relabel_local n2
    have ko : (compEnvC scope cl C c.env).kindOf op = some .local := lookup_relabel_local n3
    have ka : (compEnvC scope cl C c.env).kindOf at_ = some .local := lookup_relabel_local n1
    have hkC : (compEnvC scope cl C c.env).scope.kind = .function := hk
    have er0 : upd (upd [] at_ (.int (k : Nat))) row (.loc R) = [(at_, .int (k : Nat)), (row, .loc R)] ∧ (row == at_) = false ∧ (at_ == row) = false ∧ (op == at_) = false ∧ (op == row) = false := by
      refine ⟨by simp [upd, m1], ?_, m1, ?_, ?_⟩
      · rw [beq_eq_false_iff_ne] at m1 ⊢; exact Ne.symm m1
      · rw [beq_eq_false_iff_ne] at m2 ⊢; exact Ne.symm m2
      · rw [beq_eq_false_iff_ne] at m3 ⊢; exact Ne.symm m3
    obtain ⟨eρ, ne1, ne2, ne3, ne4⟩ := er0
    rw [eρ] at F3
    refine wpAny_mono (EvC_name (c := c) (ρ := ρ) (pos := px) (C := C) (σ := σ') (Q := fun a σ₁ => a = AV.loc R ∧ σ₁ = σ') hkC kr rfl (v := .loc R) (by simp [List.lookup_cons, ne1]) ⟨rfl, rfl⟩ d2 A outer _ F3) (fun x s₅ ⟨b, σ₅, G5, rx, eb, eσ⟩ => ?_) fun _ _ x => x
    subst eb eσ
    obtain rfl : x = .ref R := rx
    have F5 := F3.good G5
    have GG5 := G3.trans G5 noneK
    have sR5 : σ₅ R = some (.list (r.map .str)) := kD ext' _ _ sR
    obtain ⟨o, nn, vs, g, cls, _, dd, rs⟩ := cell_at F5.F sR5
    have T : s₅.heap.IsList R vs.toArray := ⟨o, g, cls, nn, dd⟩
    refine wpAny_pyIter_list T ?_
    have G6 : Good c.w c.H none s₅ σ₅ { s₅ with heap := s₅.heap.push { cls := .type "list_iterator", data := .fields #[.ref R, .int 0 0] } } σ₅ := .keep F5.F.ok ⟨rfl, rfl, rfl⟩ push_keep
    have F6 := F5.good G6
    have hit6 : (s₅.heap.push { cls := .type "list_iterator", data := .fields #[.ref R, .int 0 0] }).IsListIter s₅.heap.objs.size R 0 := ⟨_, Heap.get?_push_size _ rfl, rfl, rfl⟩
    have st5 : St (k + 1) s₅.heap := I.IT.keeps st3 fun b o e q => G5.evo b o e (q.elim (O'.out b) (fun t => F3.F.ok.tuple e t)) (fun q => nomatch q)
    have w5 := I.IT.own st5
    have own6 : Own c (fun b => b = s₅.heap.objs.size) outer (s₅.heap.push { cls := .type "list_iterator", data := .fields #[.ref R, .int 0 0] }) σ₅ := own_new F5.F fun b e => by
      subst e
      exact ⟨⟨_, Heap.get?_push_size _ rfl, fun t => type_ne (by decide) t.1⟩, F5.F.ok.fresh, none_at_end F5.F.ok.stays, get_end _⟩
    have hit2C : ¬ (C = s₅.heap.objs.size) := fun z => by
      obtain ⟨m, hn', _⟩ := F5.ns; obtain ⟨o', e', _⟩ := ns_notTup hn'
      rw [z] at e'; exact absurd (Heap.lt_size e') (Nat.lt_irrefl _)
    have new6 : ∀ b o, s.heap.get? b = some o → σ b = none → ¬ (b = s₅.heap.objs.size) ∧ b ≠ C := fun b o e n => ⟨fun z => by
      have := GG5.evo b o e n (fun q => nomatch q)
      rw [z] at this; exact absurd (Heap.lt_size this) (Nat.lt_irrefl _), inC b o e⟩
    have inner := emit_list (c := c) (ρ := ρ) (R := fun r s₇ => r = .ok .next ∧ ∃ m, m < n ∧ J m s₇) (ρ₀ := [(at_, .int (k : Nat)), (row, .loc R)]) (C := C) (D := D) (σ := σ₅) (hq D C 1 s₅.heap.objs.size) (hu D C 1 s₅.heap.objs.size) (hd D C 1 s₅.heap.objs.size) (he D C s₅.heap.objs.size)
      (iterC_list (t := R) (as := r.map .str) (fun _ _ _ _ _ _ _ q => wpAny_pure q)) (fun j l σ'' => l = emitted rows k ++ (r.take j).map (fun op => AV.tup [.str op, .int (k : Nat)]) ∧ ∀ b, b ≠ D → σ'' b = σ b) (fun j l σ'' h => kD h.2 _ _ sR) hit2C
      (fun a => [(at_, .int (k : Nat)), (row, .loc R), (op, a)]) (fun a ha => ⟨by simp, by simp [List.lookup_cons, ne1], trivial⟩) (fun a ha σ'' => by
        have := tgtC_name (c := c) (ρ := ρ) (ρC := [(at_, .int (k : Nat)), (row, .loc R)]) (C := C) (σ := σ'') (cl := cl) (px := po) (a := a) n3 hk
        have e : upd [(at_, AV.int (k : Nat)), (row, .loc R)] op a = [(at_, .int (k : Nat)), (row, .loc R), (op, a)] := by
          have q1 : (at_ == op) = false := by rw [beq_eq_false_iff_ne] at ne3 ⊢; exact Ne.symm ne3
          have q2 : (row == op) = false := by rw [beq_eq_false_iff_ne] at ne4 ⊢; exact Ne.symm ne4
          simp [upd, q1, q2]
        rw [e] at this; exact this)
      (fun j a l σ'' ha hj hs => by
        obtain ⟨hl, hext⟩ := hj
        rw [List.getElem?_map] at ha
        obtain ⟨x, hx, rfl⟩ := Option.map_eq_some_iff.mp ha
        have hlen2 : l.length ≤ 1000 := by
          have h1 : l.length ≤ (emitted rows (k + 1)).length := by rw [hl, emitted_succ, ← er]; simp; (first | lia | omega)
          have h2 : ∀ m, k + 1 ≤ m → (emitted rows (k + 1)).length ≤ (emitted rows m).length := by
            intro m hm
            induction m with
            | zero => (first | lia | omega)
            | succ m ih =>
              by_cases q : k + 1 = m + 1
              · rw [q]; exact Nat.le_refl _
              · rw [emitted_succ rows m, List.length_append]
                have := ih (by (first | lia | omega)); (first | lia | omega)
          have := h2 rows.length (by (first | lia | omega))
          (first | lia | omega)
        refine TsC_nil ?_
        rw [if_pos rfl]
        refine EvC_tup (EvsC_cons rfl (EvC_name hkC ko rfl (v := .str x) (by simp [List.lookup_cons, ne3, ne4]) ?_ d3)) (by show 2 ≤ 1000; decide)
        refine EvsC_cons rfl (EvC_name hkC ka rfl (v := .int (k : Nat)) (by simp [List.lookup_cons]) ?_ d1)
        refine EvsC_nil ⟨hs, by rw [sizeLine_eq]; (first | lia | omega), ?_, fun b hb => (Store.set_ne hb).trans (hext b hb)⟩
        rw [hl, List.append_assoc]
        congr 1
        rw [List.take_succ, hx]
        simp) F6 (GG5.trans G6 noneK) new6 own6 hit6 (l0 := emitted rows k) ⟨by simp, ext'⟩ sD' (fun s' σ'' l CF' G' kp hj hs => by
        obtain ⟨hl, hext⟩ := hj
        have hl2 : l = emitted rows (k + 1) := by rw [hl, emitted_succ, ← er]; simp
        subst hl2
        have nW2 : ∀ b, W b → ¬ (b = s₅.heap.objs.size) := fun b hb z => by
          obtain ⟨o', e', _⟩ := w5 b hb
          rw [z] at e'; exact absurd (Heap.lt_size e') (Nat.lt_irrefl _)
        have keepW : ∀ b o, s₅.heap.get? b = some o → (W b ∨ Tup o) → s'.heap.get? b = some o := fun b o e q => by
          refine kp b o (push_keep b o e) (q.elim (O'.out b) fun t => F5.F.ok.tuple e t) (fun z => ?_) (fun z => ?_)
          · rw [z] at e; exact absurd (Heap.lt_size e) (Nat.lt_irrefl _)
          · subst z
            rcases q with q | t
            · exact hWC q
            · obtain ⟨m, hn', _⟩ := F5.ns; obtain ⟨o', e', t'⟩ := ns_notTup hn'; rw [e] at e'; cases e'; exact t' t
        have stx : St (k + 1) s'.heap := I.IT.keeps st5 fun b o e q => keepW b o e q
        refine ⟨rfl, n - 1, by (first | lia | omega), k + 1, σ'', by (first | lia | omega), by (first | lia | omega), CF'.sub trivial, G', ⟨fun b o hw e => ?_, fun b hw => ?_, O'.base, O'.fr⟩, stx, hs, hext⟩
        · obtain ⟨o', e', t'⟩ := I.IT.own stx b hw
          rw [e] at e'; cases e'; exact t'
        · have hbD : b ≠ D := fun z => by
            obtain ⟨o', e', t'⟩ := wth b hw
            rw [z, hD] at e'; cases e'
          exact (hext b hbD).trans (I.own.out b hw))
    exact codeAny_compStart_list1 inner (wpAny_pyIter_listiter hit6 inner)
end

/-! # Text WCG -/
noncomputable def LROWS : List (List Str) := [["=", "+="], ["||"], ["&&"], ["==", "<", ">="], ["|"], ["^"], ["&"], ["<<"], ["+", "-"], ["*", "%"]]
noncomputable def LVD : List (Str × AV) := [("=", .int 0), ("+=", .int 0), ("||", .int 1), ("&&", .int 2), ("==", .int 3), ("<", .int 3), (">=", .int 3), ("|", .int 4), ("^", .int 5), ("&", .int 6), ("<<", .int 7), ("+", .int 8), ("-", .int 8), ("*", .int 9), ("%", .int 9)]
theorem lrows_small : ∀ r ∈ LROWS, r.length ≤ 1000 := fun r hr => Nat.le_of_ble_eq_true (List.all_eq_true.mp (by kernel_rfl : LROWS.all (fun r => Nat.ble r.length 1000) = true) r hr)
theorem emitted_rows : emitted LROWS LROWS.length = LVD.map fun p => AV.tup [.str p.1, p.2] := by kernel_rfl
section
variable {c : Fc} {ρ : List (Str × AV)} {P : List (Value × AV)} {σ : Store} {Q : AV → Store → Prop} {X : Store → Prop}
theorem E_lcE {elt : Expr} {elts : List Expr} {kk : Nat} {tp p px pe pos : Pos} {x : Str} {ifs : List Expr} {rest : List Comprehension} {scope : Scope} {cl : List (Str × Addr)} {t : Addr} {as : List AV} (hx : c.glo.contains "enumerate" = true) (hv : ρ.lookup x = some (.loc t)) (sd : σ t = some (.list as)) (hd : (x == ("__debug__" : Str)) = false)
    (hclos : closureFor scope c.env = pure cl) (hnc : ∀ x ∈ scope.names, x.2 ≠ .cell) (hk : scope.kind = .function) (hnames : ∀ x ∈ scope.names, x.2 = .local → scope.names.lookup x.1 = some .local)
    (loop : ∀ A outer s it e s₂, InFr c ρ P A outer s σ → ItAt c ρ A outer s σ s₂ σ e (fun b => b = e ∨ b = it) (.Tuple elts kk tp) (enumAV as) (fun σ => σ t = some (.list as)) (fun k h => ∃ old, IsEnum h e it (k : Nat) old ∧ h.IsListIter it t k) →
      ∀ s₄ D C, D ≠ C → CF c ρ [] C A outer s₄ (σ.set D (.list [])) → Good c.w c.H none s₂ σ s₄ (σ.set D (.list [])) → (∀ b o, s₂.heap.get? b = some o → s₄.heap.get? b = some o) → s₂.heap.get? D = none → s₂.heap.get? C = none → σ D = none →
        codeAny (model pw c.w) A (.compLoop (.ListComp elt (⟨.Tuple elts kk tp, .Call (.Name "enumerate" p) [.Name x px] [] pe, ifs, 0⟩ :: rest) scope pos) 0 (.ref e) (.ref D) (compEnvC scope cl C c.env)) (CompEnd c ρ A outer s σ Q (.ref D) C) s₄)
    (he : eval (.Call (.Name "enumerate" p) [.Name x px] [] pe) c.env = (do callWith pe (← eval (.Name "enumerate" p) c.env) [] (backTo pe (starEach [.Name x px] c.env)) (backToKw pe (keywordEach [] c.env))) := by rfl) :
    Ev c ρ P (.ListComp elt (⟨.Tuple elts kk tp, .Call (.Name "enumerate" p) [.Name x px] [] pe, ifs, 0⟩ :: rest) scope pos) σ Q X :=
  E_lc (fun _ => rfl) hclos hnc hk hnames fun A outer s F => it_enum hx F hv sd hd (fun it e s₂ I => ⟨e, σ, rfl, I.F, I.self, loop A outer s it e s₂ F I⟩) he
set_option maxHeartbeats 400000 in
theorem levels_ok (hn : 1 ≤ c.n) (q : ∀ D σ', (∀ a cl, σ a = some cl → σ' a = some cl) → σ D = none → σ' D = some (.dict LVD) → Q (.loc D) σ') : CallJ c ρ (.ref 600) [] σ Q X := by
  refine call_def0 c_law_levels b_law_levels hn (ρ₀ := []) ⟨rfl, rfl⟩ fun L => ?_
  conv => arg 3; whnf
  with_reducible refine S_cons ?_
  with_reducible refine S_assign ?_ ?_ ?_
  · rfl
  rotate_left
  · rfl
  with_reducible refine E_list ?_ ?_
  rotate_left
  · exact Nat.le_of_ble_eq_true (by kernel_rfl)
  with_reducible refine Evs_rows (rows := LROWS) ?_ lrows_small ?_
  · kernel_rfl
  intro σ₁ Rs k1 hR T hT
  have kT : ∀ a cl, σ a = some cl → (σ₁.set T (.list (Rs.map .loc))) a = some cl := fun a cl e => (Store.set_ne fun z => by rw [z] at e; rw [k1 _ _ e] at hT; cases hT).trans (k1 _ _ e)
  have hR' : RowsAt (σ₁.set T (.list (Rs.map .loc))) Rs LROWS := ⟨hR.1, fun i R r e1 e2 => (Store.set_ne fun z => by have := hR.2 i R r e1 e2; rw [z, hT] at this; cases this).trans (hR.2 i R r e1 e2)⟩
  with_reducible refine S_cons ?_
  with_reducible refine S_return ?_
  with_reducible refine E_dictc ?_ ?_ ?_
  · rfl
  · rfl
  with_reducible refine Evs_cons ?_ ?_
  rotate_left
  · rfl
  with_reducible refine E_lcE (t := T) (as := Rs.map .loc) (cl := []) ?_ ?_ ?_ ?_ ?_ ?_ ?_ ?_ (fun A outer s it e s₂ F I => ?_) ?_
  · rfl
  · rfl
  · exact Store.set_same
  · decide
  · rfl
  · decide
  · rfl
  · decide
  rotate_left
  · rfl
  refine nest_levels (Rs := Rs) (rows := LROWS) I F Store.set_same hR' (by decide) (by rfl) (by rfl) (by rfl) (by rfl) (by decide) (by decide) (by decide) (by decide) (by decide) (by decide) (fun D hD => ?_) (fun _ _ _ _ => rfl) (fun _ _ _ _ => rfl) (fun _ _ _ _ => rfl) (fun _ _ => rfl) (fun _ _ _ => rfl)
  refine Evs_nil ?_
  rw [emitted_rows]
  have hD' : ∀ a cl, σ a = some cl → ∀ {x}, ((σ₁.set T (.list (Rs.map .loc))).set D x) a = some cl := fun a cl e {x} => (Store.set_ne fun z => by rw [z] at e; rw [kT _ _ e] at hD; cases hD).trans (kT _ _ e)
  refine call_dictP (ps := LVD) Store.set_same (by decide) (by decide) fun M hM => ?_
  refine retq (q M _ (fun a cl e => (Store.set_ne fun z => by rw [z] at e; rw [hD' _ _ e] at hM; cases hM).trans (hD' _ _ e)) ?_ Store.set_same)
  cases h : σ M with
  | none => rfl
  | some cl => rw [hD' _ _ h] at hM; cases hM
end

/-! # Text WCH -/
/-! # A def with two cells of its own is called -/
structure FnChkC (a : Addr) (p1 p2 n1 n2 : Str) (loc glo : List Str) : Prop where
  at_ : FnAt a
  ok : (isLocal ((fdOf a).scope.names.lookup p1) && isLocal ((fdOf a).scope.names.lookup p2) && loc.all (fun x => isLocal ((fdOf a).scope.names.lookup x)) && glo.all (fun x => isGlob ((fdOf a).scope.names.lookup x)) &&
    isFun (fdOf a).scope.kind && !(fdOf a).scope.isCoroutine && !(fdOf a).scope.isGenerator && !(p2 == p1) && !(n1 == n2)) = true
  data : (rowOf a).obj.data = .func (fdOf a)
  code : (fdOf a).code = .ref (rowOf a).code
  qual : (fdOf a).qualname = str (rowOf a).qual
  body : (fdOf a).body = .stmts (bodyOf a)
  glb : (fdOf a).globals = mainGlobals
  blt : (fdOf a).builtins = builtinsNs
  clo : (fdOf a).closure = []
  cells : ∀ n, cellsFrom n (fdOf a).scope.names [] = [(n2, n + 1), (n1, n)]
  binds : ∀ v u, bindArgs (fdOf a) ⟨[v, u], []⟩ = pure [(p1, v), (p2, u)]
noncomputable def calleeFcC (c : Fc) (a L : Addr) (loc glo : List Str) : Fc := ⟨c.w, c.H, c.mg, c.mb, c.n - 1, callEnvC (fdOf a) L a, loc, glo⟩
section
variable {c : Fc} {ρ : List (Str × AV)} {σ : Store} {Q : AV → Store → Prop} {X : Store → Prop}
theorem call_cells2 {a : Addr} {p1 p2 n1 n2 : Str} {loc glo : List Str} (K : FnChkC a p1 p2 n1 n2 loc glo) (hn : 1 ≤ c.n) {a1 a2 : AV}
    (body : ∀ L, σ (L + 1) = none → σ (L + 2) = none → JS (calleeFcC c a L loc glo) [(p1, a1), (p2, a2)] (bodyOf a) ((σ.set (L + 1) (.cell none)).set (L + 2) (.cell none)) (fun fl _ σ' => ∃ b, (fl = .ret b ∨ (fl = .next ∧ b = .none)) ∧ Q b σ') X) : CallJ c ρ (.ref a) [a1, a2] σ Q X := by
  refine CodeJ.call fun A outer s vals F rs => ?_
  obtain ⟨v1, v2, rfl, r1, r2⟩ := vrels2 rs
  have kk := K.ok
  simp only [Bool.and_eq_true, Bool.not_eq_true'] at kk
  obtain ⟨⟨⟨⟨⟨⟨⟨⟨k1, k2⟩, k3⟩, k4⟩, k5⟩, k6⟩, k7⟩, k8⟩, k9⟩ := kk
  have kind : (fdOf a).scope.kind = .function := by revert k5; cases (fdOf a).scope.kind <;> first | (intro _; rfl) | (intro h; cases h)
  have ho : s.heap.get? a = some (rowOf a).obj := F.K _ _ (K.at_.obj _)
  have hcd : s.heap.CodeRec (fdOf a).code (fdOf a).qualname := by rw [K.code, K.qual]; exact (F.base.says.code _ K.at_.mem).keeps F.ok.stays
  have isloc : ∀ {x : Str}, isLocal ((fdOf a).scope.names.lookup x) = true → (fdOf a).scope.names.lookup x = some .local := fun {x} h => by
    revert h
    cases (fdOf a).scope.names.lookup x with
    | none => intro h; cases h
    | some k => cases k <;> first | (intro _; rfl) | (intro h; cases h)
  have isglo : ∀ {x : Str}, isGlob ((fdOf a).scope.names.lookup x) = true → (fdOf a).scope.names.lookup x = some .globalImplicit := fun {x} h => by
    revert h
    cases (fdOf a).scope.names.lookup x with
    | none => intro h; cases h
    | some k => cases k <;> first | (intro _; rfl) | (intro h; cases h)
  have memc : ∀ {l : List Str} {x : Str}, l.contains x = true → x ∈ l := fun h => by simpa using h
  have l1 := isloc k1
  have l2 := isloc k2
  refine codeAny_call_cells (by have := F.depth; show A.depth < 1000; (first | lia | omega)) ho K.data (F.base.lim.keeps F.ok.stays) hcd K.body (K.binds v1 v2) K.clo (fun x hx => ?_) (fun s0 I => ?_) k6 k7 kind
  · rcases List.mem_cons.mp hx with rfl | hx
    · exact .inl l1
    · cases List.mem_singleton.mp hx; exact .inl l2
  obtain ⟨h₀, tk₀, e0⟩ := I.toInCall.same
  have hk := I.toInCall.keep
  have hns := I.toInCall.ns
  have hcell := I.cell
  have kd1 : (callEnvC (fdOf a) s.heap.objs.size a).kindOf p1 = some .local := l1
  have kd2 : (callEnvC (fdOf a) s.heap.objs.size a).kindOf p2 = some .local := l2
  simp only [bindL, bindC, kd1, kd2, if_true] at hns hcell
  have hcells : (callEnvC (fdOf a) s.heap.objs.size a).cells = [(n2, s.heap.objs.size + 1 + 1), (n1, s.heap.objs.size + 1)] := K.cells _
  rw [hcells] at hcell
  have c1 : s0.heap.IsCell (s.heap.objs.size + 1) none := hcell n1 _ (by simp [List.lookup_cons, k9])
  have c2 : s0.heap.IsCell (s.heap.objs.size + 2) none := hcell n2 _ (by simp [List.lookup_cons])
  have f1 : s.heap.get? (s.heap.objs.size + 1) = none := Heap.get?_none_of_le (Nat.le_succ _)
  have f2 : s.heap.get? (s.heap.objs.size + 2) = none := Heap.get?_none_of_le (Nat.le_trans (Nat.le_succ _) (Nat.le_succ _))
  obtain ⟨L, eL⟩ : ∃ L, L = s.heap.objs.size := ⟨_, rfl⟩
  rw [← eL] at c1 c2 f1 f2 hns
  have σ1 : σ (L + 1) = none := fresh_cell F.ok f1
  have σ2 : σ (L + 2) = none := fresh_cell F.ok f2
  obtain ⟨σ0, eσ⟩ : ∃ σ0, σ0 = (σ.set (L + 1) (.cell none)).set (L + 2) (.cell none) := ⟨_, rfl⟩
  have s0at : ∀ b cl, σ0 b = some cl → (b = L + 1 ∧ cl = .cell none) ∨ (b = L + 2 ∧ cl = .cell none) ∨ σ b = some cl := fun b cl e => by
    rw [eσ] at e
    by_cases z : b = L + 2
    · rw [z, Store.set_same] at e; cases e; exact .inr (.inl ⟨z, rfl⟩)
    · rw [Store.set_ne z] at e
      by_cases z1 : b = L + 1
      · rw [z1, Store.set_same] at e; cases e; exact .inl ⟨z1, rfl⟩
      · rw [Store.set_ne z1] at e; exact .inr (.inr e)
  have s0up : ∀ b cl, σ b = some cl → σ0 b = some cl := fun b cl e => by
    have m2 : b ≠ L + 2 := fun z => by rw [z, σ2] at e; cases e
    have m1 : b ≠ L + 1 := fun z => by rw [z, σ1] at e; cases e
    rw [eσ, Store.set_ne m2, Store.set_ne m1]; exact e
  have s0no : ∀ b o, s.heap.get? b = some o → σ b = none → σ0 b = none := fun b o e n => by
    cases q : σ0 b with
    | none => rfl
    | some cl =>
      rcases s0at b cl q with ⟨z, _⟩ | ⟨z, _⟩ | z
      · rw [z, f1] at e; cases e
      · rw [z, f2] at e; cases e
      · rw [n] at z; cases z
  have ok0 : HeapOK c.w c.H s0.heap σ0 := by
    refine ⟨fun b o e => hk b o (F.ok.stays b o e), fun b cl e => ?_, fun b C d es e => ?_⟩
    · rcases s0at b cl e with ⟨rfl, rfl⟩ | ⟨rfl, rfl⟩ | z
      · obtain ⟨o, e1, e2⟩ := c1
        exact ⟨⟨o, none, e1, e2, trivial⟩, fresh_base F.ok f1⟩
      · obtain ⟨o, e1, e2⟩ := c2
        exact ⟨⟨o, none, e1, e2, trivial⟩, fresh_base F.ok f2⟩
      · exact ⟨(F.ok.cells b cl z).1.mono hk, (F.ok.cells b cl z).2⟩
    · rcases s0at b _ e with ⟨_, z⟩ | ⟨_, z⟩ | z
      · cases z
      · cases z
      · exact s0up _ _ (F.ok.own b C d es z)
  have rest0 : s0.gens = s.gens ∧ s0.drawn = s.drawn ∧ s0.os = s.os := by rw [e0]; exact ⟨rfl, rfl, rfl⟩
  have upH : ∀ {v : Value} (a : AV), VRel s.heap v a → VRel s0.heap v a := fun a r => r.mono (fun b o e _ => hk b o e) a
  have F0 : InFr (calleeFcC c a L loc glo) [(p1, a1), (p2, a2)] [] (A.deeper (callEnvC (fdOf a) L a)) (c.env :: outer) s0 σ0 := {
    base := ⟨F.base.says, F.base.g, F.base.b, F.base.bi, F.base.lim, F.base.free⟩
    handled := F.handled
    depth := by
      have h1 := F.depth
      have h2 : A.depth + 1 + 2 * (c.n - 1) + 2 ≤ 1000 := by (first | lia | omega)
      exact h2
    units := by
      have h1 := F.units
      have h2 : A.units + 3 + 20 * (c.n - 1) + 200 ≤ 9900 := by (first | lia | omega)
      exact h2
    frames := Around.frames_deeper F.frames
    kind := kind
    frame := rfl
    globals := K.glb
    builtins := K.blt
    stack := Heap.FunFrames.cons (by show (fdOf a).scope.kind ≠ _; rw [kind]; decide) rfl hns (by rw [eL]; exact none_at_end F.ok.stays) (funFrames_keep F.stack fun e he L hf o ho => ⟨o, hk _ _ ho, id⟩)
    apart := fun e he L' hf => by
      rcases List.mem_cons.mp he with rfl | he
      · cases hf
        cases q : σ0 L with
        | none => rfl
        | some cl =>
          rcases s0at L cl q with ⟨z, _⟩ | ⟨z, _⟩ | z
          · exact absurd z (Nat.ne_of_lt (Nat.lt_succ_self _))
          · exact absurd z (Nat.ne_of_lt (Nat.lt_succ_of_lt (Nat.lt_succ_self _)))
          · rw [eL, F.ok.fresh] at z; cases z
      · obtain ⟨⟨o, eo⟩, _⟩ := F.frameThere he hf
        exact s0no L' o eo (F.apart e he L' hf)
    ns := ⟨_, hns, fun x av e => by
      rw [List.lookup_cons] at e
      cases q : x == p1 with
      | true =>
        rw [q] at e; cases e
        have := eq_of_beq q
        subst this
        have hne : ¬ x = p2 := fun z => by rw [z] at k8; simp at k8
        exact ⟨v1, by simp [hne], upH _ r1⟩
      | false =>
        rw [q] at e
        rw [List.lookup_cons] at e
        cases q2 : x == p2 with
        | true =>
          rw [q2] at e; cases e
          have := eq_of_beq q2
          subst this
          exact ⟨v2, by simp, upH _ r2⟩
        | false => rw [q2] at e; cases e⟩
    known := fun x av e => by
      rw [List.lookup_cons] at e
      cases q : x == p1 with
      | true => rw [eq_of_beq q]; exact l1
      | false =>
        rw [q] at e
        rw [List.lookup_cons] at e
        cases q2 : x == p2 with
        | true => rw [eq_of_beq q2]; exact l2
        | false => rw [q2] at e; cases e
    locs := fun x h => isloc (List.all_eq_true.mp k3 _ (memc h))
    glos := fun x h => isglo (List.all_eq_true.mp k4 _ (memc h))
    ok := ok0
    pend := fun p hp => nomatch hp }
  have apart : ∀ b o, s.heap.get? b = some o → (some L : Option Addr) ≠ some b := fun b o e q => by
    cases q; rw [eL] at e; exact absurd (Heap.lt_size e) (Nat.lt_irrefl _)
  rw [← eL]
  refine (body L σ1 σ2).go (by rw [← eσ]; exact F0) (fun f fl ρ₁ s₁ σ₁ G F₁ r q => ?_) (fun e s₁ x => ?_)
  · rw [← eσ] at G
    have G1 : Good c.w c.H none s σ s₁ σ₁ := ⟨⟨G.rest.1.trans rest0.1, G.rest.2.1.trans rest0.2.1, G.rest.2.2.trans rest0.2.2⟩, G.ok, fun b o e n _ => G.evo b o (hk b o e) (s0no b o e n) (apart b o e), fun b o e n => G.old b o (hk b o e) (s0no b o e n)⟩
    obtain ⟨b, hb, q⟩ := q
    rcases hb with rfl | ⟨rfl, rfl⟩
    · cases f <;> first | exact r.elim | exact ⟨b, σ₁, G1, r, q⟩
    · cases f <;> first | exact r.elim | exact ⟨.none, σ₁, G1, rfl, q⟩
  · rw [← eσ] at x
    obtain ⟨σ₁, b, k⟩ := x
    obtain ⟨ea, rfl, w⟩ := b.exc
    have fin : ∀ h', s₁.heap.UpToSlots h' → (∃ a0, Heap.FlyingW c.H (c.env :: outer) ea (.ref 57) a0 h') → ExcPost c s σ outer X (.ref ea) { s₁ with heap := h' } := fun h' u ⟨a0, fl⟩ => by
      have b2 := b.slots (l' := some c.env.locals) (x' := .ref ea) (stack' := c.env :: outer) u ⟨ea, rfl, .flying fl⟩
      exact ⟨σ₁, ⟨⟨b2.rest.1.trans rest0.1, b2.rest.2.1.trans rest0.2.1, b2.rest.2.2.trans rest0.2.2⟩, b2.exc, b2.lists, fun x o e n _ f => b2.evo x o (hk x o e) (s0no x o e n) (apart x o e) f, fun x o e n => b2.old x o (hk x o e) (s0no x o e n)⟩, k⟩
    have frs : (A.deeper (callEnvC (fdOf a) L a)).frames = some (callEnvC (fdOf a) L a :: c.env :: outer) := F0.frames
    cases w with
    | new st n fr e1 cl d h0 h1 =>
      refine wpAny_leaving_firstW frs fr rfl e1 st n d h1 h0 fun h' hL => ?_
      obtain ⟨x1, ⟨_, _, x2⟩, x3, x4⟩ := hL
      rw [cl] at x3
      exact fin h' x4 ⟨_, x1, n, x2, x3⟩
    | flying fl => exact wpAny_leaves_onW frs rfl fl fun h' hf u => fin h' u ⟨_, hf⟩
    | held l hh =>
      cases l
      unfold leaving
      refine wpAny_bind (wpAny_noteFrame_againW rfl hh.2.2.2 (wpAny_landsW hh fun h' hfl u => ?_))
      obtain ⟨k1, k2, ⟨_, _, k3⟩, k4⟩ := hfl
      exact fin h' u ⟨_, k1, k2, k3, k4⟩
/-! ## Cells read and bound -/
theorem E_cellv {P : List (Value × AV)} {x : Str} {pos : Pos} {D : Addr} {v : AV} (hx : c.env.kindOf x = some .cell) (hc : c.env.cells.lookup x = some D) (sD : σ D = some (.cell (some v))) (q : Q v σ) (hd : (x == ("__debug__" : Str)) = false := by decide) : Ev c ρ P (.Name x pos) σ Q X := fun A outer s F => by
  obtain ⟨o, y, e, d, r⟩ := cell_at F sD
  cases y with
  | none => exact r.elim
  | some u => exact wpAny_Name (wpAny_loadName_cell F.kind hx hc ⟨o, e, d⟩ ⟨v, σ, .refl F.ok, r, q⟩) hd
theorem storeCell_ {P : List (Value × AV)} {A : Around} {outer : List Env} {s : Shared} {x : Str} {D : Addr} {v : Value} {a : AV} {v₀ : Option AV} {Q' : Unit → Shared → Prop} {E' : Value → Shared → Prop} (hx : c.env.kindOf x = some .cell) (hc : c.env.cells.lookup x = some D) (F : InFr c ρ P A outer s σ) (sD : σ D = some (.cell v₀)) (r : VRel s.heap v a)
    (q : ∀ s', Good c.w c.H none s σ s' (σ.set D (.cell (some a))) → Q' () s') : wpAny (model pw c.w) A (storeName c.env x v) Q' E' s := by
  obtain ⟨o, y, e, d, _⟩ := cell_at F sD
  refine wpAny_storeName_cell F.kind hx hc ⟨o, e, d⟩ fun h' hcell hs => ?_
  obtain ⟨o', e', d'⟩ := hcell
  have hT : ∀ b o, s.heap.get? b = some o → Tup o → h'.get? b = some o := fun b ob eb t => (hs.2 b fun z => (F.ok.cells _ _ sD).1.notTuple (by rw [← z]; exact eb) t).trans eb
  exact q { s with heap := h' } (Good.put (s' := { s with heap := h' }) F.ok ⟨rfl, rfl, rfl⟩ (fun b o nb e => (hs.2 b nb).trans e) sD (fun _ z => nomatch z) ⟨o', some v, e', d', r.mono hT a⟩ (fun _ _ _ z => nomatch z))
theorem S_assignC {x : Str} {pos' pos : Pos} {value : Expr} {D : Addr} {Q : Fl → List (Str × AV) → Store → Prop} (hx : c.env.kindOf x = some .cell) (hc : c.env.cells.lookup x = some D) (h : Ev c ρ [] value σ (fun a σ₁ => ∃ v₀, σ₁ D = some (.cell v₀) ∧ Q .next ρ (σ₁.set D (.cell (some a)))) X) (hs : swapsWith value (some (.Name x pos')) pos.line c.env = pure false) : J1 c ρ (.Assign [.Name x pos'] value pos) σ Q X := fun A outer s F =>
  wpAny_Assign_Name (h.go F (fun v a s₁ σ₁ G r ⟨v₀, sD, q⟩ => storeCell_ hx hc (F.stepL G) sD r fun s₂ G₂ => ⟨.next, ρ, _, (G.trans G₂ noneK).up, (F.stepL G).stepL G₂, trivial, q⟩) fun _ _ x => SExc.of x) hs
end
theorem f_law_parted : FnAt 633 := ⟨fun _ => by kernel_rfl, fun _ => by kernel_rfl, mem_find (p := fun r => Nat.beq r.addr 633) (by kernel_rfl)⟩
theorem c_law_parted : FnChkC 633 "trees" "ops" "levels" "least_here" ["trees", "ops", "at", "places", "left", "right"] ["min", "range", "len", "_law_parted"] :=
  ⟨f_law_parted, by kernel_rfl, by kernel_rfl, by kernel_rfl, by kernel_rfl, by kernel_rfl, by kernel_rfl, by kernel_rfl, by kernel_rfl, fun _ => by kernel_rfl, fun _ _ => by kernel_rfl⟩

/-! # Text WCI -/
/-! # Whole comprehensions -/
structure LcOK (c : Fc) (elt target iter : Expr) (ifs : List Expr) (scope : Scope) (pos : Pos) (cl : List (Str × Addr)) : Prop where
  q : ∀ it D C, (Code.compLoop (.ListComp elt [⟨target, iter, ifs, 0⟩] scope pos) 0 (.ref it) (.ref D) (compEnvC scope cl C c.env)).quiet = true
  u : ∀ (A : Around) it D C, A.under (.compLoop (.ListComp elt [⟨target, iter, ifs, 0⟩] scope pos) 0 (.ref it) (.ref D) (compEnvC scope cl C c.env)) = A
  d : ∀ it D C, denote table (.compLoop (.ListComp elt [⟨target, iter, ifs, 0⟩] scope pos) 0 (.ref it) (.ref D) (compEnvC scope cl C c.env)) = (compTurn (.ListComp elt [⟨target, iter, ifs, 0⟩] scope pos) 0 (.ref it) (.ref D) (compEnvC scope cl C c.env)).onRaise (fun x => do noteFrame x (compEnvC scope cl C c.env); theTreesLotGoes x)
  t : ∀ it D C, Emits (.ListComp elt [⟨target, iter, ifs, 0⟩] scope pos) 0 iter.pos target ifs elt (.ref it) (.ref D) (compEnvC scope cl C c.env)
  f : ∀ x, foldedSetIterable iter c.env x = pure x
  clos : closureFor scope c.env = pure cl
  nc : ∀ x ∈ scope.names, x.2 ≠ .cell
  k : scope.kind = .function
  names : ∀ x ∈ scope.names, x.2 = .local → scope.names.lookup x.1 = some .local
section
variable {c : Fc} {ρ : List (Str × AV)} {P : List (Value × AV)} {σ : Store} {Q : AV → Store → Prop} {X : Store → Prop}
theorem E_lcL {elt target iter : Expr} {ifs : List Expr} {scope : Scope} {pos : Pos} {cl : List (Str × Addr)} {t : Addr} {as : List AV} (ok : LcOK c elt target iter ifs scope pos cl)
    (hown : ∀ (it : Addr) (A : Around) (v : Value) (s' : Shared) (k : Nat), s'.heap.IsListIter it t k → ∀ (Q' : Unit → Shared → Prop) (E' : Value → Shared → Prop), Q' () s' → wpAny (model pw c.w) A (letOwnedTupleGo target (.ref it) v) Q' E' s')
    (hev : Ev c ρ P iter σ (fun a σ₁ => a = .loc t ∧ σ₁ = σ) X) (sd : σ t = some (.list as)) (ρ₁ : AV → List (Str × AV)) (tgt : ∀ C, ∀ a ∈ as, ∀ σ', TgtC c ρ [] C (compEnvC scope cl C c.env) target a σ' (ρ₁ a))
    (J : Addr → Nat → List AV → Store → Prop) (hside : ∀ D k l σ', J D k l σ' → σ' t = some (.list as)) (j0 : ∀ D, σ D = none → J D 0 [] (σ.set D (.list [])))
    (turn : ∀ D C k a l σ', as[k]? = some a → J D k l σ' → σ' D = some (.list l) → TsC c ρ (ρ₁ a) C (compEnvC scope cl C c.env) ifs σ' (fun ok σ₁ => if ok = true then EvC c ρ (ρ₁ a) C (compEnvC scope cl C c.env) elt σ₁ (fun b σ₂ => σ₂ D = some (.list l) ∧ l.length ≤ sizeLine ∧ J D (k + 1) (l ++ [b]) (σ₂.set D (.list (l ++ [b])))) else σ₁ D = some (.list l) ∧ J D (k + 1) l σ₁))
    (fin : ∀ D σ' l, J D as.length l σ' → σ' D = some (.list l) → Q (.loc D) σ') : Ev c ρ P (.ListComp elt [⟨target, iter, ifs, 0⟩] scope pos) σ Q X :=
  E_lc ok.f ok.clos ok.nc ok.k ok.names fun A outer s F => it_list hown F hev sd fun it s₂ I => ⟨it, σ, rfl, I.F, I.self, lc_core I F ρ₁ tgt J hside j0 turn fin (fun D C => ok.q it D C) (fun D C => ok.u A it D C) (fun D C => ok.d it D C) (fun D C => ok.t it D C)⟩
theorem E_lcE1 {elt : Expr} {elts : List Expr} {kk : Nat} {tp p px pe pos : Pos} {x : Str} {ifs : List Expr} {scope : Scope} {cl : List (Str × Addr)} {t : Addr} {as : List AV} (ok : LcOK c elt (.Tuple elts kk tp) (.Call (.Name "enumerate" p) [.Name x px] [] pe) ifs scope pos cl)
    (hx : c.glo.contains "enumerate" = true) (hv : ρ.lookup x = some (.loc t)) (sd : σ t = some (.list as)) (hd : (x == ("__debug__" : Str)) = false) (ρ₁ : AV → List (Str × AV)) (tgt : ∀ C, ∀ a ∈ enumAV as, ∀ σ', TgtC c ρ [] C (compEnvC scope cl C c.env) (.Tuple elts kk tp) a σ' (ρ₁ a))
    (J : Addr → Nat → List AV → Store → Prop) (hside : ∀ D k l σ', J D k l σ' → σ' t = some (.list as)) (j0 : ∀ D, σ D = none → J D 0 [] (σ.set D (.list [])))
    (turn : ∀ D C k a l σ', (enumAV as)[k]? = some a → J D k l σ' → σ' D = some (.list l) → TsC c ρ (ρ₁ a) C (compEnvC scope cl C c.env) ifs σ' (fun ok σ₁ => if ok = true then EvC c ρ (ρ₁ a) C (compEnvC scope cl C c.env) elt σ₁ (fun b σ₂ => σ₂ D = some (.list l) ∧ l.length ≤ sizeLine ∧ J D (k + 1) (l ++ [b]) (σ₂.set D (.list (l ++ [b])))) else σ₁ D = some (.list l) ∧ J D (k + 1) l σ₁))
    (fin : ∀ D σ' l, J D (enumAV as).length l σ' → σ' D = some (.list l) → Q (.loc D) σ')
    (he : eval (.Call (.Name "enumerate" p) [.Name x px] [] pe) c.env = (do callWith pe (← eval (.Name "enumerate" p) c.env) [] (backTo pe (starEach [.Name x px] c.env)) (backToKw pe (keywordEach [] c.env))) := by rfl) :
    Ev c ρ P (.ListComp elt [⟨.Tuple elts kk tp, .Call (.Name "enumerate" p) [.Name x px] [] pe, ifs, 0⟩] scope pos) σ Q X :=
  E_lcE hx hv sd hd ok.clos ok.nc ok.k ok.names (fun A outer s it e s₂ F I => lc_core I F ρ₁ tgt J hside j0 turn fin (fun D C => ok.q e D C) (fun D C => ok.u A e D C) (fun D C => ok.d e D C) (fun D C => ok.t e D C)) he
theorem S_lcR {x y : Str} {px py spos : Pos} {elt iter : Expr} {ifs : List Expr} {scope : Scope} {pos : Pos} {cl : List (Str × Addr)} {n : Nat} {Q : Fl → List (Str × AV) → Store → Prop} (hn : n ≤ 2 ^ 40) (ok : LcOK c elt (.Name y py) iter ifs scope pos cl) (hx : c.loc.contains x = true)
    (hsw : swapsWith (.ListComp elt [⟨.Name y py, iter, ifs, 0⟩] scope pos) (some (.Name x px)) spos.line c.env = pure true)
    (hev : Ev c ρ [] iter σ (fun a σ₁ => ∃ t, a = .loc t ∧ σ t = none ∧ σ₁ = σ.set t (.rng n)) X) (ρ₁ : AV → List (Str × AV)) (tgt : ∀ C, ∀ a ∈ ((List.range n).map fun k => AV.int (k : Nat)), ∀ σ', TgtC c ρ [] C (compEnvC scope cl C c.env) (.Name y py) a σ' (ρ₁ a))
    (J : Addr → Nat → List AV → Store → Prop) (j0 : ∀ t D, σ t = none → (σ.set t (.rng n)) D = none → J D 0 [] ((σ.set t (.rng n)).set D (.list [])))
    (turn : ∀ D C k l σ', k < n → J D k l σ' → σ' D = some (.list l) → TsC c ρ (ρ₁ (.int (k : Nat))) C (compEnvC scope cl C c.env) ifs σ' (fun ok σ₁ => if ok = true then EvC c ρ (ρ₁ (.int (k : Nat))) C (compEnvC scope cl C c.env) elt σ₁ (fun b σ₂ => σ₂ D = some (.list l) ∧ l.length ≤ sizeLine ∧ J D (k + 1) (l ++ [b]) (σ₂.set D (.list (l ++ [b])))) else σ₁ D = some (.list l) ∧ J D (k + 1) l σ₁))
    (fin : ∀ D σ' l, J D n l σ' → σ' D = some (.list l) → Q .next (upd ρ x (.loc D)) σ') : J1 c ρ (.Assign [.Name x px] (.ListComp elt [⟨.Name y py, iter, ifs, 0⟩] scope pos) spos) σ Q X :=
  S_lc hx hsw ok.f ok.clos ok.nc ok.k ok.names fun A outer s F => it_range hn F hev fun it s₂ t ht I => ⟨it, _, rfl, I.F, I.self, lc_core I F ρ₁ tgt J (fun _ _ _ _ _ => trivial) (fun D hD => j0 t D ht hD) (fun D C k a l σ' ha hj hs => by
    rw [List.getElem?_map] at ha
    obtain ⟨j, hj', rfl⟩ := Option.map_eq_some_iff.mp ha
    have hk : k < n := by have := (List.getElem?_eq_some_iff.mp hj').1; simpa using this
    rw [List.getElem?_range hk] at hj'
    cases hj'
    exact turn D C k l σ' hk hj hs) (fun D σ' l hj hs => fin D σ' l (by rw [List.length_map, List.length_range] at hj; exact hj) hs) (fun D C => ok.q it D C) (fun D C => ok.u A it D C) (fun D C => ok.d it D C) (fun D C => ok.t it D C)⟩
end
/-! # The least of a list -/
theorem ints_of {h : Heap} : ∀ {vs : List Value} {is : List Int}, VRels h vs (is.map .int) → ∃ xs : List (Int × Tok), vs = xs.map (fun p => Value.int p.1 p.2) ∧ xs.map (·.1) = is
  | _, [], e => by cases e; exact ⟨[], rfl, rfl⟩
  | _, i :: is, ⟨x, xs, e, ⟨t, r⟩, rs⟩ => by
    subst e r
    obtain ⟨ys, e1, e2⟩ := ints_of rs
    exact ⟨(i, t) :: ys, by rw [e1]; rfl, by rw [← e2]; rfl⟩
theorem leastOf_eq {ls : List Int} {m : Int} (h : m ∈ ls) (k : ∀ a ∈ ls, m ≤ a) : leastOf ls = m := by
  have h1 := leastOf_le h
  have h2 := k _ (leastOf_mem (List.ne_nil_of_mem h))
  (first | lia | omega)
section
variable {c : Fc} {ρ : List (Str × AV)} {P : List (Value × AV)} {σ : Store} {Q : AV → Store → Prop} {X : Store → Prop}
theorem call_minL {D : Addr} {is : List Int} (sD : σ D = some (.list (is.map .int))) (hne : is ≠ []) (q : Q (.int (leastOf is)) σ) : CallJ c ρ (.builtin "min") [.loc D] σ Q X := CallJ.grow (r := .int (leastOf is)) (fun A outer s vals F rs Q' E' k => by
  obtain ⟨v, rfl, r⟩ := vrels1 rs
  obtain rfl : v = .ref D := r
  obtain ⟨o, n, vs, g, cl, _, d, rs⟩ := cell_at F sD
  obtain ⟨xs, e1, e2⟩ := ints_of rs
  have T : s.heap.IsList D (intItems xs.toArray) := ⟨o, g, cl, n, by rw [d, e1]; simp [intItems]⟩
  have hl : xs.length = is.length := by rw [← e2]; simp
  have hpos : 0 < is.length := List.length_pos_iff.mpr hne
  have hnum : ∀ i, i < is.length → numAt xs.toArray i = is.getD i 0 := fun i hi => by
    unfold numAt
    rw [← e2, List.getD_eq_getElem?_getD, List.getElem?_map]
    simp
  refine min_intList F.handled T (by simp; (first | lia | omega)) fun v h' tk hv hk => ?_
  obtain ⟨t, rfl⟩ := intItems_at hv
  refine k _ _ _ hk ⟨t, ?_⟩
  obtain ⟨b1, b2⟩ := argBest_lt (numAt xs.toArray) (xs.toArray.size - 1)
  rw [List.size_toArray] at b1 b2
  rw [List.size_toArray]
  obtain ⟨b, eb⟩ : ∃ b, b = argBest (fun i j => decide (numAt xs.toArray i < numAt xs.toArray j)) (xs.length - 1) := ⟨_, rfl⟩
  rw [← eb] at b1 b2 ⊢
  have hb : b < is.length := by (first | lia | omega)
  have e3 : leastOf is = numAt xs.toArray b := by
    refine leastOf_eq ?_ fun a ha => ?_
    · rw [hnum b hb, List.getD_eq_getElem?_getD, List.getElem?_eq_getElem hb]
      exact List.getElem_mem hb
    · obtain ⟨j, hj, ej⟩ := List.mem_iff_getElem.mp ha
      have := b2 j (by (first | lia | omega))
      rw [hnum j hj, List.getD_eq_getElem?_getD, List.getElem?_eq_getElem hj] at this
      rw [← ej]; exact this
  rw [e3]) q
end
theorem opT_spot (op : Str) (l r : AV) : (opT op l r).spot.isSome = true := by
  unfold opT
  split
  · unfold assT
    split <;> rfl
  · rfl
theorem parted_spot : ∀ (f : Nat) (trees : List AV) (ops : List Str) {t : AV}, (∀ t ∈ trees, t.spot.isSome = true) → parted f trees ops = some t → t.spot.isSome = true
  | 0, _, _, _, _, h => by cases h
  | f + 1, trees, ops, t, hs, h => by
    unfold parted at h
    split at h
    · cases trees with
      | nil => cases h
      | cons a l => cases h; exact hs _ (.head _)
    · split at h
      · cases h
      · unfold both at h
        split at h
        · cases h; exact opT_spot _ _ _
        · cases h
theorem spot_noval {a : AV} (h : a.spot.isSome = true) : ∀ u, a ≠ .val u := fun u e => by rw [e] at h; cases h
noncomputable def optA : Option AV → AV
  | none => .none
  | some t => t
theorem optA_noval {r : Option AV} (h : ∀ t, r = some t → t.spot.isSome = true) : ∀ u, optA r ≠ .val u := fun u e => by
  cases r with
  | none => cases e
  | some t => exact spot_noval (h t rfl) u e
theorem optA_isNone {r : Option AV} (h : ∀ t, r = some t → t.spot.isSome = true) : (optA r).isNone = r.isNone := by
  cases r with
  | none => rfl
  | some t =>
    have := h t rfl
    show t.isNone = false
    cases t with
    | none => cases this
    | _ => rfl

/-! # Text WCK -/
noncomputable def opsS : List Str := ["=", "+=", "||", "&&", "==", "<", ">=", "|", "^", "&", "<<", "+", "-", "*", "%"]
theorem lvd_lev {s : Str} (h : s ∈ opsS) : LVD.lookup s = some (.int (levS s)) := by
  have all : ∀ s ∈ opsS, (match LVD.lookup s with | some (.int i) => i == levS s | _ => false) = true := by decide
  have := all s h
  split at this
  · rename_i i e
    rw [e, eq_of_beq this]
  · cases this
noncomputable abbrev Kp (σ σ' : Store) : Prop := ∀ a cl, σ a = some cl → σ' a = some cl
theorem Kp.set {σ : Store} {D : Addr} {cl : Cell} (h : σ D = none) : Kp σ (σ.set D cl) := fun a c e => (Store.set_ne fun z => by rw [z, h] at e; cases e).trans e
noncomputable def PartC (f : Nat) : Prop := ∀ (trees : List AV) (ops : List Str), ops.length < f → ops.length ≤ 100 → trees.length = ops.length + 1 → (∀ t ∈ trees, t.spot.isSome = true) → (∀ o ∈ ops, o ∈ opsS) →
  ∀ (c : Fc) (ρ : List (Str × AV)) (σ : Store) (Q : AV → Store → Prop) (X : Store → Prop) (T O : Addr), σ T = some (.list trees) → σ O = some (.list (ops.map .str)) → f + 3 ≤ c.n → (∀ σ', Kp σ σ' → Q (optA (parted f trees ops)) σ') → CallJ c ρ (.ref 633) [.loc T, .loc O] σ Q X
theorem dats_strs : ∀ (l : List Str), AV.dats (l.map .str) = some (l.map .str)
  | [] => rfl
  | x :: l => by
    rw [List.map_cons, List.map_cons]
    unfold AV.dats
    rw [dats_strs l]
    rfl
theorem canLay_strs : ∀ (l : List Str), (∀ x ∈ l, PyData.strOk x = true) → PyData.canLayAll0 (l.map .str) = true
  | [], _ => by simp [PyData.canLayAll0]
  | x :: l, h => by
    rw [List.map_cons]
    simp [PyData.canLayAll0, PyData.canLay0, canLay_strs l (fun y hy => h y (.tail _ hy)), h x (.head _)]
theorem ops_strOk {x : Str} (h : x ∈ opsS) : PyData.strOk x = true := by
  have all : ∀ s ∈ opsS, PyData.strOk s = true := fun s hs => List.all_eq_true.mp (by kernel_rfl : opsS.all (fun s => PyData.strOk s) = true) s hs
  exact all x h
theorem eqv_nil (l : List Str) : PyData.eqvAll (l.map .str) [] = l.isEmpty := by
  cases l <;> simp [PyData.eqvAll]
section
variable {c : Fc} {ρ : List (Str × AV)} {P : List (Value × AV)} {σ : Store} {Q : AV → Store → Prop} {X : Store → Prop}
set_option maxHeartbeats 1000000 in
theorem parted_step (f : Nat) (IH : PartC f) : PartC (f + 1) := fun trees ops hlen h100 htl hsp hop c ρ σ Q X T O sT sO hn q => by
  refine call_cells2 c_law_parted (by (first | lia | omega)) fun L hL1 hL2 => ?_
  obtain ⟨σ0, eσ⟩ : ∃ σ0, σ0 = (σ.set (L + 1) (.cell none)).set (L + 2) (.cell none) := ⟨_, rfl⟩
  rw [← eσ]
  have k0 : Kp σ σ0 := fun a cl e => by
    have m2 : a ≠ L + 2 := fun z => by rw [z, hL2] at e; cases e
    have m1 : a ≠ L + 1 := fun z => by rw [z, hL1] at e; cases e
    rw [eσ, Store.set_ne m2, Store.set_ne m1]; exact e
  have s1 : σ0 (L + 1) = some (.cell none) := by rw [eσ, Store.set_ne (Nat.ne_of_lt (Nat.lt_succ_self _))]; exact Store.set_same
  have s2 : σ0 (L + 2) = some (.cell none) := by rw [eσ]; exact Store.set_same
  have sT0 := k0 _ _ sT
  have sO0 := k0 _ _ sO
  have kd : ∀ {x : Str} {k : NameKind}, (fdOf 633).scope.names.lookup x = some k → (calleeFcC c 633 L ["trees", "ops", "at", "places", "left", "right"] ["min", "range", "len", "_law_parted"]).env.kindOf x = some k := fun h => h
  conv => arg 3; whnf
  repeat k_memK
  intro E hE
  have kE : Kp σ0 (σ0.set E (.list [])) := Kp.set hE
  obtain ⟨σa, eσa⟩ : ∃ σa, σa = σ0.set E (.list []) := ⟨_, rfl⟩
  rw [← eσa]
  rw [← eσa] at kE
  refine cmp_eqL (as := ops.map .str) (bs := []) (kE _ _ sO0) (by rw [eσa]; exact Store.set_same) (dats_strs ops) rfl (canLay_strs ops fun x hx => ops_strOk (hop x hx)) (by simp [PyData.canLayAll0]) (by simp [PyData.depthAll]) ?_
  rw [eqv_nil]
  cases ho : ops.isEmpty with
  | true =>
    rw [if_pos rfl]
    have ho' : ops = [] := by simpa using ho
    subst ho'
    repeat k_memK
    cases trees with
    | nil => cases htl
    | cons t0 tl =>
      refine sub_list (fun _ _ => ⟨_, rfl⟩) (kE _ _ sT0) (by decide) (by decide) rfl ?_
      refine retq ?_
      have := q σa fun a cl e => kE _ _ (k0 _ _ e)
      unfold parted at this
      exact this
  | false =>
    rw [if_neg (by decide)]
    refine S_nil ?_
    have hne : ops ≠ [] := fun e => by rw [e] at ho; cases ho
    have sLa : σa (L + 1) = some (.cell none) := kE _ _ s1
    have sHa : σa (L + 2) = some (.cell none) := kE _ _ s2
    have sTa := kE _ _ sT0
    have sOa := kE _ _ sO0
    have kσa : Kp σ σa := fun a cl e => kE _ _ (k0 _ _ e)
    with_reducible refine S_cons ?_
    with_reducible refine S_assignC (D := L + 1) ?_ ?_ ?_ ?_
    · kernel_rfl
    · kernel_rfl
    rotate_left
    · kernel_rfl
    with_reducible refine E_lcL (t := O) (as := ops.map .str) (cl := []) ?_ ?_ ?_ sOa (fun a => [("op", a)]) ?_ (fun D k l σ' => l = (ops.take k).map (fun o => AV.int (levS o)) ∧ σa D = none ∧ Kp σa σ') ?_ ?_ ?_ ?_
    · exact ⟨fun _ _ _ => rfl, fun _ _ _ _ => rfl, fun _ _ _ => rfl, fun _ _ _ => rfl, fun _ => rfl, by kernel_rfl, by decide, by rfl, by decide⟩
    · exact fun _ _ _ _ _ _ _ _ q => wpAny_pure q
    · exact E_loc (by rfl) ⟨rfl, rfl⟩
    · exact fun C a _ σ' => tgtC_name (by rfl) (by rfl)
    · exact fun D k l σ' h => h.2.2 _ _ sOa
    · exact fun D hD => ⟨rfl, hD, Kp.set hD⟩
    · intro D C k a l σ' ha hj hs
      obtain ⟨hl, hD, kp⟩ := hj
      rw [List.getElem?_map] at ha
      obtain ⟨o, hok, rfl⟩ := Option.map_eq_some_iff.mp ha
      have hoo : o ∈ opsS := hop o (List.mem_of_getElem? hok)
      refine TsC_nil ?_
      rw [if_pos rfl]
      refine EvC_sub (EvC_call0 (f := 600) (EvC_gf (by rfl) (by kernel_rfl) c_law_parted.glb g__law_levels ⟨rfl, ?_⟩) (by kernel_rfl))
      refine levels_ok (by show 1 ≤ c.n - 1; (first | lia | omega)) fun M σ'' kM nM sM => ?_
      refine EvC_name (by rfl) (by kernel_rfl) rfl (v := .str o) (by rfl) ?_
      refine sub_dict (fun _ _ => ⟨_, rfl⟩) sM (lvd_lev hoo) ?_
      refine ⟨kM _ _ hs, by rw [hl, List.length_map, List.length_take, sizeLine_eq]; (first | lia | omega), ?_, hD, fun a cl e => ?_⟩
      · rw [hl, List.take_add_one, hok]; simp
      · exact (Store.set_ne fun z => by rw [z, hD] at e; cases e).trans (kM _ _ (kp _ _ e))
    intro D1 σb l hj hs
    obtain ⟨hl, hD1, kb⟩ := hj
    rw [List.length_map, List.take_length] at hl
    subst hl
    refine ⟨none, kb _ _ sLa, ?_⟩
    have eL1 : D1 ≠ L + 1 := fun z => by rw [z, sLa] at hD1; cases hD1
    obtain ⟨σc, eσc⟩ : ∃ σc, σc = σb.set (L + 1) (.cell (some (.loc D1))) := ⟨_, rfl⟩
    rw [← eσc]
    have n12 : L + 2 ≠ L + 1 := Nat.ne_of_gt (Nat.lt_succ_self _)
    have kc : Kp σ σc := fun a cl e => by
      have m1 : a ≠ L + 1 := fun z => by rw [z, hL1] at e; cases e
      rw [eσc, Store.set_ne m1]; exact kb _ _ (kσa _ _ e)
    have sLc : σc (L + 1) = some (.cell (some (.loc D1))) := by rw [eσc]; exact Store.set_same
    have sHc : σc (L + 2) = some (.cell none) := by rw [eσc, Store.set_ne n12]; exact kb _ _ sHa
    have sDc : σc D1 = some (.list ((ops.map levS).map .int)) := by rw [eσc, Store.set_ne eL1, List.map_map]; exact hs
    clear eσc kb hs hD1
    have hlsne : ops.map levS ≠ [] := by simpa using hne
    with_reducible refine S_cons ?_
    with_reducible refine S_assignC (D := L + 2) ?_ ?_ ?_ ?_
    · kernel_rfl
    · kernel_rfl
    rotate_left
    · kernel_rfl
    repeat k_memK
    refine E_cellv (D := L + 1) (by kernel_rfl) (by kernel_rfl) sLc ?_
    repeat k_memK
    refine call_minL sDc hlsne ?_
    obtain ⟨m, em⟩ : ∃ m, m = leastOf (ops.map levS) := ⟨_, rfl⟩
    rw [← em]
    refine ⟨none, sHc, ?_⟩
    obtain ⟨σd, eσd⟩ : ∃ σd, σd = σc.set (L + 2) (.cell (some (.int m))) := ⟨_, rfl⟩
    rw [← eσd]
    have e2 : D1 ≠ L + 2 := fun z => by rw [z, sHc] at sDc; cases sDc
    have kd' : Kp σ σd := fun a cl e => by
      have m2 : a ≠ L + 2 := fun z => by rw [z, hL2] at e; cases e
      rw [eσd, Store.set_ne m2]; exact kc _ _ e
    have sLd : σd (L + 1) = some (.cell (some (.loc D1))) := by rw [eσd, Store.set_ne (Ne.symm n12)]; exact sLc
    have sHd : σd (L + 2) = some (.cell (some (.int m))) := by rw [eσd]; exact Store.set_same
    have sDd : σd D1 = some (.list ((ops.map levS).map .int)) := by rw [eσd, Store.set_ne e2]; exact sDc
    clear eσd kc sLc sHc sDc
    with_reducible refine S_cons ?_
    have sTd := kd' _ _ sT
    have sOd := kd' _ _ sO
    have hls : (ops.map levS).length = ops.length := List.length_map ..
    with_reducible refine S_lcR (n := ops.length) (cl := [("levels", L + 1), ("least_here", L + 2)]) ?_ ?_ ?_ ?_ ?_ (fun a => [("at", a)]) ?_ (fun D k l σ' => l = ((List.range k).filter (fun i => (ops.map levS)[i]? == some m)).map (fun i => AV.int (i : Nat)) ∧ σd D = none ∧ Kp σd σ') ?_ ?_ ?_
    · (first | lia | omega)
    · exact ⟨fun _ _ _ => rfl, fun _ _ _ _ => rfl, fun _ _ _ => rfl, fun _ _ _ => rfl, fun _ => rfl, by kernel_rfl, by decide, by rfl, by decide⟩
    · rfl
    · kernel_rfl
    · with_reducible refine E_range ?_ ?_ ?_
      · rfl
      · rfl
      repeat k_memK
      refine call_lenL sOd (by rw [List.length_map]; (first | lia | omega)) ?_
      rw [List.length_map]
      repeat k_memK
      exact call_range fun b hb => ⟨b, rfl, hb, rfl⟩
    · exact fun C a _ σ' => tgtC_name (by rfl) (by rfl)
    · refine fun t D ht hD => ⟨rfl, ?_, ?_⟩
      · cases z : σd D with
        | none => rfl
        | some cl => rw [Kp.set ht _ _ z] at hD; cases hD
      · exact fun a cl e => Kp.set hD _ _ (Kp.set ht _ _ e)
    · intro D C k l σ' hk hj hs
      obtain ⟨hl, hD, kp⟩ := hj
      have hkl : (ops.map levS)[k]? = some ((ops.map levS)[k]'(by (first | lia | omega))) := List.getElem?_eq_getElem _
      obtain ⟨v, ev⟩ : ∃ v, v = (ops.map levS)[k]'(by (first | lia | omega)) := ⟨_, rfl⟩
      rw [← ev] at hkl
      have hll : l.length ≤ 1000 := by
        rw [hl, List.length_map]
        have := List.length_filter_le (fun i => (ops.map levS)[i]? == some m) (List.range k)
        rw [List.length_range] at this; (first | lia | omega)
      refine TsC_cmp (EvC_sub (EvC_cell (by rfl) (by kernel_rfl) (by rfl) (kp _ _ sLd) ?_))
      refine EvC_name (by rfl) (by kernel_rfl) rfl (v := .int (k : Nat)) (by rfl) ?_
      refine sub_list (fun _ _ => ⟨_, rfl⟩) (kp _ _ sDd) (by (first | lia | omega)) (by (first | lia | omega)) (b := .int v) ?_ ?_
      · rw [Int.toNat_natCast, List.getElem?_map, hkl]; rfl
      refine EvC_cell (by rfl) (by kernel_rfl) (by rfl) (kp _ _ sHd) ?_
      refine cmp_I (b := v == m) rfl ?_
      have fin : ∀ b, (v == m) = b → ((List.range (k + 1)).filter (fun i => (ops.map levS)[i]? == some m)) = ((List.range k).filter (fun i => (ops.map levS)[i]? == some m)) ++ (if b then [k] else []) := fun b hb => by
        rw [List.range_succ, List.filter_append]
        congr 1
        have : ((ops.map levS)[k]? == some m) = b := by rw [hkl]; exact hb
        simp only [List.filter_cons, List.filter_nil, this]
      cases hvm : v == m with
      | true =>
        rw [if_pos rfl]
        refine EvC_name (by rfl) (by kernel_rfl) rfl (v := .int (k : Nat)) (by rfl) ?_
        refine ⟨hs, by rw [sizeLine_eq]; (first | lia | omega), ?_, hD, fun a cl e => ?_⟩
        · rw [fin true hvm, hl]; simp
        · exact (Store.set_ne fun z => by rw [z, hD] at e; cases e).trans (kp _ _ e)
      | false =>
        rw [if_neg (by decide)]
        exact ⟨hs, by rw [fin false hvm, hl]; simp, hD, kp⟩
    intro D2 σe l hj hs
    obtain ⟨hl, hD2, ke0⟩ := hj
    have hl : l = (placesOf (ops.map levS) m).map (fun i => AV.int (i : Nat)) := by
      rw [hl]; unfold placesOf; rw [hls]
    subst hl
    have ke : Kp σ σe := fun a cl e => ke0 _ _ (kd' _ _ e)
    have sLe := ke0 _ _ sLd
    have sHe := ke0 _ _ sHd
    have sTe := ke _ _ sT
    have sOe := ke _ _ sO
    clear ke0 hD2 sLd sHd sDd kd' sTd sOd
    obtain ⟨ps, eps⟩ : ∃ ps, ps = placesOf (ops.map levS) m := ⟨_, rfl⟩
    rw [← eps] at hs
    have hpl : ps.length ≤ 100 := by
      rw [eps]; unfold placesOf
      have := List.length_filter_le (fun i => (ops.map levS)[i]? == some m) (List.range (ops.map levS).length)
      rw [List.length_range] at this; (first | lia | omega)
    with_reducible refine S_cons ?_
    refine S_ifB (B := decide (m = 3) && decide (1 < ps.length)) ?_ ?_
    · repeat k_memK
      refine E_cellv (D := L + 2) (by kernel_rfl) (by kernel_rfl) sHe ?_
      repeat k_memK
      refine cmp_I (b := m == 3) rfl ?_
      cases h3 : m == 3 with
      | false =>
        rw [if_neg (by decide)]
        exact ⟨by rw [decide_eq_false (by simpa using h3)]; rfl, rfl⟩
      | true =>
        rw [if_pos rfl]
        repeat k_memK
        refine call_lenL hs (by rw [List.length_map]; (first | lia | omega)) ?_
        rw [List.length_map]
        repeat k_memK
        refine cmp_I (b := decide ((1 : Int) < ps.length)) rfl ?_
        have e3 : decide (m = 3) = true := decide_eq_true (by simpa using h3)
        rw [e3, Bool.true_and]
        by_cases hp : 1 < ps.length
        · rw [if_pos (decide_eq_true (by (first | lia | omega))), decide_eq_true hp]
          exact All_and_nil ⟨rfl, rfl⟩
        · rw [if_neg (by simp; (first | lia | omega)), decide_eq_false hp]
          exact ⟨rfl, rfl⟩
    have hm : m = leastOf (ops.map levS) := em
    have hpart : ¬ (m = 3 ∧ 1 < ps.length) → parted (f + 1) trees ops = both (ops.getD (atOf (ops.map levS)) "") (parted f (trees.take (atOf (ops.map levS) + 1)) (ops.take (atOf (ops.map levS)))) (parted f (trees.drop (atOf (ops.map levS) + 1)) (ops.drop (atOf (ops.map levS) + 1))) := fun h => by
      conv => lhs; unfold parted
      rw [ho, if_neg (by decide), ← hm, if_neg]
      rintro ⟨h1, h2⟩
      exact h ⟨h1, by rw [eps, h1]; exact h2⟩
    cases hB : decide (m = 3) && decide (1 < ps.length) with
    | true =>
      rw [if_pos rfl]
      rw [Bool.and_eq_true, decide_eq_true_eq, decide_eq_true_eq] at hB
      repeat k_memK
      refine retq ?_
      have := q σe ke
      have e : parted (f + 1) trees ops = none := by
        conv => lhs; unfold parted
        rw [ho, if_neg (by decide), ← hm, if_pos ⟨hB.1, by rw [← hB.1, ← eps]; exact hB.2⟩]
      rw [e] at this
      exact this
    | false =>
      rw [if_neg (by decide)]
      have hB' : ¬ (m = 3 ∧ 1 < ps.length) := fun h => by rw [decide_eq_true h.1, decide_eq_true h.2] at hB; cases hB
      have hp := hpart hB'
      obtain ⟨ha1, ha2⟩ := at_lt hlsne
      have hps : ps ≠ [] := fun e => by
        have : atOf (ops.map levS) ∈ ps := by rw [eps, hm]; exact mem_places.mpr ha2
        rw [e] at this; cases this
      obtain ⟨at_, eat⟩ : ∃ at_, at_ = atOf (ops.map levS) := ⟨_, rfl⟩
      have hat : at_ = if m = 0 then ps.headD 0 else ps.getLastD 0 := by rw [eat]; unfold atOf; rw [← hm, ← eps]
      rw [← eat] at hp ha1
      have ha1 : at_ < ops.length := by rw [hls] at ha1; exact ha1
      clear ha2 eat
      refine S_nil ?_
      with_reducible refine S_cons ?_
      with_reducible refine S_assign ?_ ?_ ?_
      · rfl
      rotate_left
      · rfl
      with_reducible refine E_if ?_
      repeat k_memK
      refine E_cellv (D := L + 2) (by kernel_rfl) (by kernel_rfl) sHe ?_
      repeat k_memK
      refine cmp_I (b := m == 0) rfl ?_
      suffices hnext : JS (calleeFcC c 633 L ["trees", "ops", "at", "places", "left", "right"] ["min", "range", "len", "_law_parted"]) [("trees", .loc T), ("ops", .loc O), ("places", .loc D2), ("at", .int (at_ : Nat))] _ σe (Ret Q) X by
        cases hm0 : m == 0 with
        | true =>
          rw [if_pos rfl]
          repeat k_memK
          have e0 : at_ = ps.headD 0 := by rw [hat, if_pos (by simpa using hm0)]
          refine sub_list (fun _ _ => ⟨_, rfl⟩) hs (by decide) (by decide) (b := .int (at_ : Nat)) ?_ ?_
          · rw [e0]
            cases ps with
            | nil => exact absurd rfl hps
            | cons a l => rfl
          · exact hnext
        | false =>
          rw [if_neg (by decide)]
          repeat k_memK
          have e0 : at_ = ps.getLastD 0 := by rw [hat, if_neg (by simpa using hm0)]
          have hpos : 0 < ps.length := List.length_pos_iff.mpr hps
          refine E_neg (i := 1) ?_
          repeat k_memK
          refine ⟨rfl, ?_⟩
          refine sub_listN (fun _ _ => ⟨_, rfl⟩) hs (by decide) (by rw [List.length_map]; (first | lia | omega)) (by decide) (b := .int (at_ : Nat)) ?_ ?_
          · rw [List.length_map, List.getElem?_map, show ((-1 : Int) + ps.length).toNat = ps.length - 1 by (first | lia | omega), ← List.getLast?_eq_getElem?, List.getLast?_eq_some_getLast hps]
            rw [e0, List.getLastD_eq_getLast?, List.getLast?_eq_some_getLast hps]
            rfl
          · exact hnext
      have again : ∀ {c' : Fc} {ρ' : List (Str × AV)} {σ' : Store} {Q' : AV → Store → Prop} {T' O' : Addr} {ts : List AV} {os : List Str}, os.length < f → os.length ≤ ops.length → ts.length = os.length + 1 → (∀ t ∈ ts, t ∈ trees) → (∀ o ∈ os, o ∈ ops) → σ' T' = some (.list ts) → σ' O' = some (.list (os.map .str)) → f + 3 ≤ c'.n → (∀ σ'', Kp σ' σ'' → Q' (optA (parted f ts os)) σ'') → CallJ c' ρ' (.ref 633) [.loc T', .loc O'] σ' Q' X := fun {c' ρ' σ' Q' T' O' ts os} h1 h0 h2 h3 h4 h5 h6 h7 h8 =>
        IH ts os h1 (by (first | lia | omega)) h2 (fun t ht => hsp t (h3 t ht)) (fun o ho => hop o (h4 o ho)) c' ρ' σ' Q' X T' O' h5 h6 h7 h8
      have hcn : f + 3 ≤ (calleeFcC c 633 L ["trees", "ops", "at", "places", "left", "right"] ["min", "range", "len", "_law_parted"]).n := by show f + 3 ≤ c.n - 1; (first | lia | omega)
      obtain ⟨rl, erl⟩ : ∃ rl, rl = parted f (trees.take (at_ + 1)) (ops.take at_) := ⟨_, rfl⟩
      obtain ⟨rr, err⟩ : ∃ rr, rr = parted f (trees.drop (at_ + 1)) (ops.drop (at_ + 1)) := ⟨_, rfl⟩
      rw [← erl, ← err] at hp
      have hsl : ∀ t, rl = some t → t.spot.isSome = true := fun t e => parted_spot f _ _ (fun t ht => hsp t (List.mem_of_mem_take ht)) (by rw [← erl]; exact e)
      have hsr : ∀ t, rr = some t → t.spot.isSome = true := fun t e => parted_spot f _ _ (fun t ht => hsp t (List.mem_of_mem_drop ht)) (by rw [← err]; exact e)
      have hop1 : ∃ o, ops[at_]? = some o := ⟨_, List.getElem?_eq_getElem ha1⟩
      obtain ⟨o, eo⟩ := hop1
      have ego : ops.getD at_ "" = o := by rw [List.getD_eq_getElem?_getD, eo]; rfl
      rw [ego] at hp
      with_reducible refine S_cons ?_
      refine S_pairW (by rfl) (by rfl) ?_ (by rfl) (by rfl)
      repeat k_memK
      refine E_fn rfl g__law_parted rfl ?_
      with_reducible refine Evs_cons ?_ ?_
      rotate_left
      · rfl
      refine E_sl (fun _ _ => ⟨_, rfl⟩) ?_
      repeat k_memK
      refine bin_addI ?_
      refine ⟨_, rfl, ?_⟩
      repeat k_memK
      refine ⟨T, trees, trees.take (at_ + 1), rfl, sTe, by rw [sizeLine_eq]; (first | lia | omega), by decide, fun h xs r => ?_, fun F1 hF1 => ?_⟩
      · rw [show ((at_ : Int) + 1) = ((at_ + 1 : Nat) : Int) by (first | lia | omega), slicePick_upto']
        simpa using r.take (at_ + 1)
      with_reducible refine Evs_cons ?_ ?_
      rotate_left
      · rfl
      refine E_sl (fun _ _ => ⟨_, rfl⟩) ?_
      repeat k_memK
      refine ⟨_, rfl, ?_⟩
      repeat k_memK
      refine ⟨O, ops.map .str, (ops.take at_).map .str, rfl, Kp.set hF1 _ _ sOe, by rw [List.length_map, sizeLine_eq]; (first | lia | omega), by decide, fun h xs r => ?_, fun F2 hF2 => ?_⟩
      · rw [slicePick_upto', List.map_take]
        simpa using r.take at_
      repeat k_memK
      have k2 := fun (a : Addr) (cl : Cell) (e : σe a = some cl) => Kp.set (cl := .list ((ops.take at_).map .str)) hF2 a cl (Kp.set hF1 a cl e)
      refine again (ts := trees.take (at_ + 1)) (os := ops.take at_) (by rw [List.length_take]; (first | lia | omega)) (by rw [List.length_take]; (first | lia | omega)) (by rw [List.length_take, List.length_take]; (first | lia | omega)) (fun t ht => List.mem_of_mem_take ht) (fun o ho => List.mem_of_mem_take ho) (Kp.set hF2 _ _ Store.set_same) Store.set_same hcn fun σ1 kσ1 => ?_
      have k3 : Kp σe σ1 := fun a cl e => kσ1 _ _ (k2 a cl e)
      rw [← erl]
      repeat k_memK
      refine E_fn rfl g__law_parted rfl ?_
      with_reducible refine Evs_cons ?_ ?_
      rotate_left
      · rfl
      refine E_sl (fun _ _ => ⟨_, rfl⟩) ?_
      repeat k_memK
      refine bin_addI ?_
      refine ⟨_, rfl, ?_⟩
      repeat k_memK
      refine ⟨T, trees, trees.drop (at_ + 1), rfl, k3 _ _ sTe, by rw [sizeLine_eq]; (first | lia | omega), by decide, fun h xs r => ?_, fun F3 hF3 => ?_⟩
      · rw [show ((at_ : Int) + 1) = ((at_ + 1 : Nat) : Int) by (first | lia | omega), slicePick_from']
        simpa using r.drop (at_ + 1)
      with_reducible refine Evs_cons ?_ ?_
      rotate_left
      · rfl
      refine E_sl (fun _ _ => ⟨_, rfl⟩) ?_
      repeat k_memK
      refine bin_addI ?_
      refine ⟨_, rfl, ?_⟩
      repeat k_memK
      refine ⟨O, ops.map .str, (ops.drop (at_ + 1)).map .str, rfl, Kp.set hF3 _ _ (k3 _ _ sOe), by rw [List.length_map, sizeLine_eq]; (first | lia | omega), by decide, fun h xs r => ?_, fun F4 hF4 => ?_⟩
      · rw [show ((at_ : Int) + 1) = ((at_ + 1 : Nat) : Int) by (first | lia | omega), slicePick_from', List.map_drop]
        simpa using r.drop (at_ + 1)
      repeat k_memK
      have k4 := fun (a : Addr) (cl : Cell) (e : σe a = some cl) => Kp.set (cl := .list ((ops.drop (at_ + 1)).map .str)) hF4 a cl (Kp.set hF3 a cl (k3 _ _ e))
      refine again (ts := trees.drop (at_ + 1)) (os := ops.drop (at_ + 1)) (by rw [List.length_drop]; (first | lia | omega)) (by rw [List.length_drop]; (first | lia | omega)) (by rw [List.length_drop, List.length_drop]; (first | lia | omega)) (fun t ht => List.mem_of_mem_drop ht) (fun o ho => List.mem_of_mem_drop ho) (Kp.set hF4 _ _ Store.set_same) Store.set_same hcn fun σf kσf => ?_
      have kf : Kp σ σf := fun a cl e => kσf _ _ (k4 a cl (ke _ _ e))
      rw [← err]
      repeat k_memK
      refine ⟨_, _, rfl, ?_⟩
      with_reducible refine S_cons ?_
      refine S_ifB (B := rl.isNone || rr.isNone) ?_ ?_
      · repeat k_memK
        refine cmp_isNone (optA_noval hsl) ?_
        rw [optA_isNone hsl]
        cases hl1 : rl.isNone with
        | true => rw [if_pos rfl]; exact ⟨rfl, rfl⟩
        | false =>
          rw [if_neg (by decide)]
          repeat k_memK
          refine cmp_isNone (optA_noval hsr) ?_
          rw [optA_isNone hsr]
          cases hr1 : rr.isNone with
          | true => rw [if_pos rfl]; exact ⟨rfl, rfl⟩
          | false => rw [if_neg (by decide)]; exact All_or_nil ⟨rfl, rfl⟩
      have hq := q σf kf
      rw [hp] at hq
      have sOf := kf _ _ sO
      cases rl with
      | none =>
        rw [show ((none : Option AV).isNone || rr.isNone) = true from rfl, if_pos rfl]
        repeat k_memK
        exact retq hq
      | some l =>
        cases rr with
        | none =>
          rw [show ((some l).isNone || (none : Option AV).isNone) = true from rfl, if_pos rfl]
          repeat k_memK
          exact retq hq
        | some r =>
          rw [show ((some l).isNone || (some r).isNone) = false from rfl, if_neg (by decide)]
          refine S_nil ?_
          have hq : Q (opT o l r) σf := hq
          obtain ⟨sp, esp⟩ := Option.isSome_iff_exists.mp (hsl l rfl)
          have espD : spotD l = sp := by unfold spotD; rw [esp]; rfl
          have so : ∀ {Q' : AV → Store → Prop} {slice : Expr}, Plain slice → Q' (.str o) σf → SubJ (calleeFcC c 633 L ["trees", "ops", "at", "places", "left", "right"] ["min", "range", "len", "_law_parted"]) (upd (upd [("trees", .loc T), ("ops", .loc O), ("places", .loc D2), ("at", .int (at_ : Nat))] "right" (optA (some r))) "left" (optA (some l))) slice (.loc O) (.int (at_ : Nat)) σf Q' := fun h q' =>
            sub_list h sOf (by (first | lia | omega)) (by (first | lia | omega)) (by rw [Int.toNat_natCast, List.getElem?_map, eo]; rfl) q'
          with_reducible refine S_cons ?_
          refine S_ifB (B := o == "=") ?_ ?_
          · repeat k_memK
            refine so (fun _ _ => ⟨_, rfl⟩) ?_
            repeat k_memK
            exact ⟨rfl, rfl⟩
          cases h1 : o == "=" with
          | true =>
            rw [if_pos rfl]
            repeat k_memK
            refine spot_sub (fun _ _ => ⟨_, rfl⟩) esp ?_
            repeat k_memK
            refine retq ?_
            have e : opT o l r = .tup [.str "assign", .int sp, l, r] := by unfold opT assT; rw [h1, Bool.true_or, if_pos rfl, if_pos rfl, espD]
            rw [e] at hq; exact hq
          | false =>
            rw [if_neg (by decide)]
            refine S_nil ?_
            with_reducible refine S_cons ?_
            refine S_ifB (B := o == "+=") ?_ ?_
            · repeat k_memK
              refine so (fun _ _ => ⟨_, rfl⟩) ?_
              repeat k_memK
              exact ⟨rfl, rfl⟩
            cases h2 : o == "+=" with
            | true =>
              rw [if_pos rfl]
              repeat k_memK
              refine spot_sub (fun _ _ => ⟨_, rfl⟩) esp ?_
              repeat k_memK
              refine retq ?_
              have e : opT o l r = .tup [.str "update", .int sp, .str "+", l, r] := by unfold opT assT; rw [h1, h2, Bool.false_or, if_pos rfl, if_neg (by decide), espD]
              rw [e] at hq; exact hq
            | false =>
              rw [if_neg (by decide)]
              refine S_nil ?_
              repeat k_memK
              refine spot_sub (fun _ _ => ⟨_, rfl⟩) esp ?_
              repeat k_memK
              refine so (fun _ _ => ⟨_, rfl⟩) ?_
              repeat k_memK
              refine retq ?_
              have e : opT o l r = .tup [.str "binary", .int sp, .str o, l, r] := by unfold opT binT; rw [h1, h2, Bool.false_or, if_neg (by decide), espD]
              rw [e] at hq; exact hq
theorem parted_all : ∀ f, PartC f
  | 0 => fun _ _ h => absurd h (Nat.not_lt_zero _)
  | f + 1 => parted_step f (parted_all f)
end

/-! # Text WSG -/
/-! # Segments of a text, and their words -/
theorem len_cps (T : Str) : T.cps.toList.length = T.length := Array.length_toList
theorem blank_here {T : Str} {pre rest : List Nat} {c : Nat} (hT : T.cps.toList = pre ++ c :: rest) (h1 : chC c BL = false) (h2 : c ≠ 47) : Blank T pre.length pre.length := by
  have hl : pre.length < T.length := by
    have := congrArg List.length hT
    rw [len_cps] at this; simp at this; (first | lia | omega)
  have hat : T.cps.toList[pre.length]? = some c := by rw [hT]; simp
  have cut2 : ∀ s : Str, s.cps.toList.head? = some 47 → (cut T pre.length (pre.length + 2) == s) = false := fun s hs => by
    refine beq_eq_false_iff_ne.mpr fun e => h2 ?_
    have e2 := cut_list (T := T) (i := pre.length) (j := pre.length + 2) (by (first | lia | omega)) (by (first | lia | omega))
    rw [e, hT, List.drop_left] at e2
    rw [e2, show pre.length + 2 - pre.length = 2 by (first | lia | omega)] at hs
    simpa using hs
  exact ⟨⟨Nat.le_refl _, by (first | lia | omega), fun k h3 h4 => by (first | lia | omega), fun _ => by rw [chIn_at hat]; exact h1⟩, fun _ => cut2 _ (by decide), fun _ => cut2 _ (by decide)⟩
theorem blank_end_at {T : Str} : Blank T T.length T.length := ⟨⟨Nat.le_refl _, Nat.le_refl _, fun k h3 h4 => by (first | lia | omega), fun h => by (first | lia | omega)⟩, fun h => by (first | lia | omega), fun h => by (first | lia | omega)⟩
theorem blank_sp {T : Str} {pre rest : List Nat} {c : Nat} (hT : T.cps.toList = pre ++ 32 :: c :: rest) (h1 : chC c BL = false) (h2 : c ≠ 47) : Blank T pre.length (pre.length + 1) := by
  have hT' : T.cps.toList = (pre ++ [32]) ++ c :: rest := by rw [hT]; simp
  have b := blank_here hT' h1 h2
  rw [List.length_append, List.length_singleton] at b
  have hat : T.cps.toList[pre.length]? = some 32 := by rw [hT]; simp
  refine ⟨⟨by (first | lia | omega), b.run.lt, fun k h3 h4 => ?_, b.run.ends⟩, b.no1, b.no2⟩
  have e : k = pre.length := by (first | lia | omega)
  subst e
  rw [chIn_at hat]; kernel_rfl
noncomputable def Seg (nx : Option Nat → Bool) (n : Nat) (cs : List Nat) (T : List Tk) : Prop := T.length ≤ cs.length ∧ ∀ (X : Str) (pre post : List Nat) (j : Nat) (ts : List Tk), X.cps.toList = pre ++ (cs ++ post) → pre.length = n → nx post.head? = true → Blank X (n + cs.length) j → Lx X j ts → Lx X n (T ++ ts)
theorem Seg.weaken {nx nx' : Option Nat → Bool} {n : Nat} {cs : List Nat} {T : List Tk} (h : Seg nx n cs T) (k : ∀ o, nx' o = true → nx o = true) : Seg nx' n cs T := ⟨h.1, fun X pre post j ts hX hp hn hb hl => h.2 X pre post j ts hX hp (k _ hn) hb hl⟩
theorem Seg.app {nx1 nx2 : Option Nat → Bool} {n : Nat} {cs1 r : List Nat} {c : Nat} {T1 T2 : List Tk} (h1 : Seg nx1 n cs1 T1) (h2 : Seg nx2 (n + cs1.length) (c :: r) T2) (k : nx1 (some c) = true) (b : chC c BL = false) (b2 : c ≠ 47) : Seg nx2 n (cs1 ++ c :: r) (T1 ++ T2) := ⟨by have a := h1.1; have b := h2.1; simp at *; (first | lia | omega), fun X pre post j ts hX hp hn hb hl => by
  have hX2 : X.cps.toList = (pre ++ cs1) ++ ((c :: r) ++ post) := by rw [hX]; simp
  have hX1 : X.cps.toList = pre ++ (cs1 ++ ((c :: r) ++ post)) := by rw [hX]; simp
  have hp2 : (pre ++ cs1).length = n + cs1.length := by rw [List.length_append, hp]
  have l2 := h2.2 X (pre ++ cs1) post j ts hX2 hp2 hn (by rw [List.length_append, ← Nat.add_assoc] at hb; exact hb) hl
  have bb := blank_here (T := X) (pre := pre ++ cs1) (c := c) (rest := r ++ post) hX2 b b2
  rw [hp2] at bb
  rw [List.append_assoc]
  exact h1.2 X pre ((c :: r) ++ post) (n + cs1.length) (T2 ++ ts) hX1 hp k bb l2⟩
theorem Seg.sp {nx1 nx2 : Option Nat → Bool} {n : Nat} {cs1 r : List Nat} {c : Nat} {T1 T2 : List Tk} (h1 : Seg nx1 n cs1 T1) (h2 : Seg nx2 (n + cs1.length + 1) (c :: r) T2) (k : nx1 (some 32) = true) (b : chC c BL = false) (b2 : c ≠ 47) : Seg nx2 n (cs1 ++ 32 :: c :: r) (T1 ++ T2) := ⟨by have a := h1.1; have b := h2.1; simp at *; (first | lia | omega), fun X pre post j ts hX hp hn hb hl => by
  have hX2 : X.cps.toList = (pre ++ cs1 ++ [32]) ++ ((c :: r) ++ post) := by rw [hX]; simp
  have hX1 : X.cps.toList = pre ++ (cs1 ++ (32 :: c :: r ++ post)) := by rw [hX]; simp
  have hX3 : X.cps.toList = (pre ++ cs1) ++ 32 :: c :: (r ++ post) := by rw [hX]; simp
  have hp3 : (pre ++ cs1).length = n + cs1.length := by rw [List.length_append, hp]
  have hp2 : (pre ++ cs1 ++ [32]).length = n + cs1.length + 1 := by rw [List.length_append, hp3]; rfl
  have l2 := h2.2 X (pre ++ cs1 ++ [32]) post j ts hX2 hp2 hn (by
    have e : n + (cs1 ++ 32 :: c :: r).length = n + cs1.length + 1 + (c :: r).length := by simp; (first | lia | omega)
    rw [e] at hb; exact hb) hl
  have bb := blank_sp (T := X) (pre := pre ++ cs1) (c := c) (rest := r ++ post) hX3 b b2
  rw [hp3] at bb
  rw [List.append_assoc]
  exact h1.2 X pre (32 :: c :: r ++ post) (n + cs1.length + 1) (T2 ++ ts) hX1 hp k bb l2⟩
theorem Seg.word {nx : Option Nat → Bool} {n : Nat} {c : Nat} {r : List Nat} {t : Tk} (h : ∀ (X : Str) (pre post : List Nat), X.cps.toList = pre ++ (c :: r ++ post) → pre.length = n → nx post.head? = true → Word X n t (n + (c :: r).length)) : Seg nx n (c :: r) [t] := ⟨by simp, fun X pre post j ts hX hp hn hb hl => by
  refine .cons ?_ (h X pre post hX hp hn) hb hl
  have := congrArg List.length hX
  rw [len_cps] at this
  simp at this; (first | lia | omega)⟩
noncomputable def nxName : Option Nat → Bool
  | none => true
  | some c => !chC c NS
theorem seg_name {s : Str} {n c0 : Nat} {r : List Nat} (hs : s.cps.toList = c0 :: r) (hb : chC c0 NB = true) (hall : (c0 :: r).all (fun c => chC c NS) = true) : Seg nxName n s.cps.toList [nm s n] := by
  rw [hs]
  refine Seg.word fun X pre post hX hp hn => ?_
  have w := word_name hX (c0 := c0) rfl hb (fun c hc => List.all_eq_true.mp hall c hc) (fun c hc => by
    rw [hc] at hn
    have hn : (!chC c NS) = true := hn
    simpa using hn)
  have e : (⟨(c0 :: r).toArray⟩ : Str) = s := str_ext (by rw [← hs])
  rw [e, hp] at w
  exact w
noncomputable def nxSign (k : Nat) (s : Str) : Option Nat → Bool
  | none => allClash k s.cps.toList
  | some c => allClash k (s.cps.toList ++ [c])
theorem seg_sign {s : Str} {n k c0 : Nat} {r : List Nat} (hk : SG[k]? = some s) (hs : s.cps.toList = c0 :: r) (h1 : chC c0 NB = false) (h2 : chC c0 FG = false) (h3 : c0 ≠ 39) : Seg (nxSign k s) n s.cps.toList [sg s n] := by
  have hl : s.length = (c0 :: r).length := by rw [← len_cps, hs]
  rw [hs]
  refine Seg.word fun X pre post hX hp hn => ?_
  have hX' : X.cps.toList = pre ++ (s.cps.toList ++ post) := by rw [hs]; exact hX
  have key : ∃ known rest, s.cps.toList ++ post = known ++ rest ∧ allClash k known = true := by
    cases post with
    | nil => exact ⟨s.cps.toList, [], rfl, hn⟩
    | cons c p => exact ⟨s.cps.toList ++ [c], p, by simp, hn⟩
  obtain ⟨known, rest, e1, e2⟩ := key
  have w := word_sign hk hX' (c0 := c0) (by rw [hs]; rfl) h1 h2 h3 e1 e2
  rw [hp, hl] at w
  exact w
/-- what may follow an operand -/
noncomputable def nxE : Option Nat → Bool
  | none => true
  | some c => Nat.beq c 32 || Nat.beq c 41
/-- what may begin one -/
noncomputable def FS (c : Nat) : Bool := ([45, 33, 42, 38, 97, 98, 120, 40, 99, 100, 101] : List Nat).any fun x => Nat.beq x c
theorem FS_mem {c : Nat} (h : FS c = true) : c ∈ ([45, 33, 42, 38, 97, 98, 120, 40, 99, 100, 101] : List Nat) := by
  obtain ⟨x, hx, e⟩ := List.any_eq_true.mp h
  rw [← Nat.eq_of_beq_eq_true e]; exact hx
theorem FS_all {P : Nat → Bool} (k : ([45, 33, 42, 38, 97, 98, 120, 40, 99, 100, 101] : List Nat).all P = true) {c : Nat} (h : FS c = true) : P c = true := List.all_eq_true.mp k _ (FS_mem h)
theorem FS_nb {c : Nat} (h : FS c = true) : chC c BL = false := by
  have := FS_all (P := fun c => !chC c BL) (by kernel_rfl) h
  simpa using this
theorem FS_ns {c : Nat} (h : FS c = true) : c ≠ 47 := fun e => by rw [e] at h; revert h; decide
theorem nxE_all {P : Option Nat → Bool} (h0 : P none = true) (h1 : P (some 32) = true) (h2 : P (some 41) = true) : ∀ o, nxE o = true → P o = true
  | none, _ => h0
  | some c, h => by
    unfold nxE at h
    rw [Bool.or_eq_true] at h
    rcases h with h | h
    · rw [Nat.eq_of_beq_eq_true h]; exact h1
    · rw [Nat.eq_of_beq_eq_true h]; exact h2

/-! # Text WQA -/
/-! # Trees are data -/
noncomputable def DatOK (K : Nat) (a : AV) : Prop := ∃ d, a.dat = some d ∧ d.canLay0 = true ∧ d.depth ≤ K
theorem DatOK.up {K K' : Nat} {a : AV} (h : DatOK K a) (k : K ≤ K') : DatOK K' a := let ⟨d, e1, e2, e3⟩ := h; ⟨d, e1, e2, Nat.le_trans e3 k⟩
theorem datOK_str {K : Nat} {s : Str} (h : PyData.strOk s = true) : DatOK K (.str s) := ⟨.str s, rfl, by simp [PyData.canLay0, h], by simp [PyData.depth]⟩
theorem datOK_int {K : Nat} {i : Int} : DatOK K (.int i) := ⟨.int i, rfl, by simp [PyData.canLay0], by simp [PyData.depth]⟩
theorem datOK_bool {K : Nat} {b : Bool} : DatOK K (.bool b) := ⟨.bool b, rfl, by simp [PyData.canLay0], by simp [PyData.depth]⟩
theorem datOK_none {K : Nat} : DatOK K .none := ⟨PyData.none, rfl, by simp [PyData.canLay0], by simp [PyData.depth]⟩
theorem datsOK {K : Nat} : ∀ {as : List AV}, (∀ a ∈ as, DatOK K a) → ∃ ds, AV.dats as = some ds ∧ PyData.canLayAll0 ds = true ∧ PyData.depthAll ds ≤ K
  | [], _ => ⟨[], rfl, by simp [PyData.canLayAll0], by simp [PyData.depthAll]⟩
  | a :: as, h => by
    obtain ⟨d, e1, e2, e3⟩ := h a (.head _)
    obtain ⟨ds, f1, f2, f3⟩ := datsOK fun b hb => h b (.tail _ hb)
    refine ⟨d :: ds, ?_, by simp [PyData.canLayAll0, e2, f2], by simp only [PyData.depthAll]; (first | lia | omega)⟩
    unfold AV.dats
    rw [e1, f1]
theorem datOK_tup {K : Nat} {as : List AV} (h : ∀ a ∈ as, DatOK K a) : DatOK (K + 1) (.tup as) := by
  obtain ⟨ds, f1, f2, f3⟩ := datsOK h
  refine ⟨.tuple ds, ?_, by simp [PyData.canLay0, f2], by simp only [PyData.depth]; (first | lia | omega)⟩
  unfold AV.dat
  rw [f1]; rfl
noncomputable def TreeOK (K : Nat) (t : AV) : Prop := t.spot.isSome = true ∧ DatOK K t
theorem TreeOK.up {K K' : Nat} {a : AV} (h : TreeOK K a) (k : K ≤ K') : TreeOK K' a := ⟨h.1, h.2.up k⟩
theorem all1 {P : AV → Prop} {a : AV} (h : P a) : ∀ x ∈ [a], P x := fun x hx => by cases List.mem_singleton.mp hx; exact h
theorem allC {P : AV → Prop} {a : AV} {l : List AV} (h : P a) (k : ∀ x ∈ l, P x) : ∀ x ∈ a :: l, P x := fun x hx => by
  rcases List.mem_cons.mp hx with rfl | hx
  · exact h
  · exact k x hx
theorem allN {P : AV → Prop} : ∀ x ∈ ([] : List AV), P x := fun x hx => nomatch hx
theorem nms_ok {x : Str} (h : x ∈ nms) : PyData.strOk x = true := List.all_eq_true.mp (by kernel_rfl : nms.all (fun s => PyData.strOk s) = true) x h
theorem path_ok {x : Str} {p : Int} (h : x ∈ nms) : TreeOK 4 (pathT x p) :=
  ⟨rfl, datOK_tup (allC (datOK_str (by kernel_rfl)) (allC datOK_int (all1 (datOK_tup (all1 (datOK_tup (allC (datOK_str (nms_ok h)) (allC (datOK_tup (K := 0) allN) (all1 (datOK_tup (K := 0) allN)))))))) ))⟩
/-! # Pieces: what the law draws, and how it is read -/
structure Piece (f : Addr) (more : List AV) (Fol : List (Str × Str)) (n : Nat) (x : Str) (r : Option AV) (N K : Nat) : Prop where
  ex : ∃ (T : List Tk) (c0 : Nat) (cr : List Nat), Seg nxE n x.cps.toList T ∧ x.cps.toList = c0 :: cr ∧ FS c0 = true ∧ (∃ t l, T = t :: l ∧ t.among begins = true) ∧ Par f more T r N Fol
  tr : ∀ t, r = some t → TreeOK K t
noncomputable abbrev UP := Piece 406 [.bool false] stops1
noncomputable abbrev OP := Piece 392 [.bool false] stops2
noncomputable abbrev DP := Piece 364 [] stops3
theorem segN {s : Str} {c0 : Nat} {r : List Nat} (n : Nat) (hs : s.cps.toList = c0 :: r) (hb : chC c0 NB = true) (hall : (c0 :: r).all (fun c => chC c NS) = true) : Seg nxName n (c0 :: r) [nm s n] := by
  have := seg_name (n := n) hs hb hall
  rw [hs] at this; exact this
theorem segS {s : Str} {c0 : Nat} {r : List Nat} (n k : Nat) (hk : SG[k]? = some s) (hs : s.cps.toList = c0 :: r) (h1 : chC c0 NB = false) (h2 : chC c0 FG = false) (h3 : c0 ≠ 39) : Seg (nxSign k s) n (c0 :: r) [sg s n] := by
  have := seg_sign (n := n) hk hs h1 h2 h3
  rw [hs] at this; exact this
theorem nms_cps {x : Str} (h : x ∈ nms) : ∃ c0, x.cps.toList = [c0] ∧ chC c0 NB = true ∧ ([c0] : List Nat).all (fun c => chC c NS) = true ∧ chC c0 BL = false ∧ c0 ≠ 47 := by
  have all : nms.all (fun s => match s.cps.toList with | [c0] => chC c0 NB && ([c0] : List Nat).all (fun c => chC c NS) && !chC c0 BL && !Nat.beq c0 47 | _ => false) = true := by kernel_rfl
  have := List.all_eq_true.mp all x h
  split at this
  · rename_i c0 e
    simp only [Bool.and_eq_true, Bool.not_eq_true'] at this
    obtain ⟨⟨⟨h1, h2⟩, h3⟩, h4⟩ := this
    exact ⟨c0, e, h1, h2, h3, fun z => by rw [z] at h4; cases h4⟩
  · cases this
/-- one sign, then one name -/
theorem seg_dot {x : Str} {c0 : Nat} (n : Nat) (hx : x.cps.toList = [c0]) (hb : chC c0 NB = true) (hall : ([c0] : List Nat).all (fun c => chC c NS) = true) (hB : chC c0 BL = false) (h47 : c0 ≠ 47) (hn : nxSign 32 "." (some c0) = true) : Seg nxName n [46, c0] [sg "." n, nm x (n + 1 : Nat)] :=
  Seg.app (cs1 := [46]) (segS n 32 (by kernel_rfl) (by kernel_rfl) (by kernel_rfl) (by kernel_rfl) (by decide)) (segN (n + 1) hx hb hall) hn hB h47
noncomputable def Way.toks (n : Nat) : Way → List Tk
  | .field => [sg "." (n : Nat), nm "f" (n + 1 : Nat)]
  | .call => [sg "(" (n : Nat), nm "c" (n + 1 : Nat), sg ")" (n + 2 : Nat)]
  | .index => [sg "[" (n : Nat), nm "d" (n + 1 : Nat), sg "]" (n + 2 : Nat)]
  | .meth => [sg "." (n : Nat), nm "m" (n + 1 : Nat), sg "(" (n + 2 : Nat), sg ")" (n + 3 : Nat)]
  | .bare => []
theorem seg_call (n : Nat) : Seg nxE n [40, 99, 41] (Way.toks n .call) := by
  have a := Seg.app (nx2 := nxName) (cs1 := [40]) (segS n 23 (s := "(") (by kernel_rfl) (by kernel_rfl) (by kernel_rfl) (by kernel_rfl) (by decide)) (segN (s := "c") (n + 1) (c0 := 99) (r := []) (by kernel_rfl) (by kernel_rfl) (by kernel_rfl)) (by kernel_rfl) (by kernel_rfl) (by decide)
  have b := Seg.app a (segS (s := ")") (n + 2) 24 (by kernel_rfl) (c0 := 41) (r := []) (by kernel_rfl) (by kernel_rfl) (by kernel_rfl) (by decide)) (by kernel_rfl) (by kernel_rfl) (by decide)
  exact b.weaken (nxE_all (by kernel_rfl) (by kernel_rfl) (by kernel_rfl))
theorem seg_index (n : Nat) : Seg nxE n [91, 100, 93] (Way.toks n .index) := by
  have a := Seg.app (nx2 := nxName) (cs1 := [91]) (segS n 27 (s := "[") (by kernel_rfl) (by kernel_rfl) (by kernel_rfl) (by kernel_rfl) (by decide)) (segN (s := "d") (n + 1) (c0 := 100) (r := []) (by kernel_rfl) (by kernel_rfl) (by kernel_rfl)) (by kernel_rfl) (by kernel_rfl) (by decide)
  have b := Seg.app a (segS (s := "]") (n + 2) 28 (by kernel_rfl) (c0 := 93) (r := []) (by kernel_rfl) (by kernel_rfl) (by kernel_rfl) (by decide)) (by kernel_rfl) (by kernel_rfl) (by decide)
  exact b.weaken (nxE_all (by kernel_rfl) (by kernel_rfl) (by kernel_rfl))
theorem seg_field (n : Nat) : Seg nxE n [46, 102] (Way.toks n .field) :=
  (seg_dot (x := "f") n (by kernel_rfl) (by kernel_rfl) (by kernel_rfl) (by kernel_rfl) (by decide) (by kernel_rfl)).weaken (nxE_all (by kernel_rfl) (by kernel_rfl) (by kernel_rfl))
theorem seg_meth (n : Nat) : Seg nxE n [46, 109, 40, 41] (Way.toks n .meth) := by
  have a := seg_dot (x := "m") (c0 := 109) n (by kernel_rfl) (by kernel_rfl) (by kernel_rfl) (by kernel_rfl) (by decide) (by kernel_rfl)
  have b := Seg.app (nx2 := nxSign 23 "(") a (segS (s := "(") (n + 2) 23 (by kernel_rfl) (c0 := 40) (r := []) (by kernel_rfl) (by kernel_rfl) (by kernel_rfl) (by decide)) (by kernel_rfl) (by kernel_rfl) (by decide)
  have d := Seg.app b (segS (s := ")") (n + 3) 24 (by kernel_rfl) (c0 := 41) (r := []) (by kernel_rfl) (by kernel_rfl) (by kernel_rfl) (by decide)) (by kernel_rfl) (by kernel_rfl) (by decide)
  exact d.weaken (nxE_all (by kernel_rfl) (by kernel_rfl) (by kernel_rfl))
theorem way_seg {n c0 : Nat} {x : Str} (w : Way) (hx : x.cps.toList = [c0]) (hb : chC c0 NB = true) (hall : ([c0] : List Nat).all (fun c => chC c NS) = true) : Seg nxE n (x ++ w.txt).cps.toList (nm x n :: w.toks (n + 1)) := by
  have a := segN (s := x) n hx hb hall
  have key : ∀ (c1 : Nat) (r : List Nat), w.txt.cps.toList = c1 :: r → Seg nxE (n + 1) (c1 :: r) (w.toks (n + 1)) → nxName (some c1) = true → chC c1 BL = false → c1 ≠ 47 → Seg nxE n (x ++ w.txt).cps.toList (nm x n :: w.toks (n + 1)) := fun c1 r e s h1 h2 h3 => by
    have e2 : (x ++ w.txt).cps.toList = [c0] ++ c1 :: r := by
      show (x.cps ++ w.txt.cps).toList = _
      rw [Array.toList_append, hx, e]
    rw [e2]
    exact Seg.app (cs1 := [c0]) a s h1 h2 h3
  cases w with
  | field => exact key 46 [102] (by kernel_rfl) (seg_field _) (by kernel_rfl) (by kernel_rfl) (by decide)
  | call => exact key 40 [99, 41] (by kernel_rfl) (seg_call _) (by kernel_rfl) (by kernel_rfl) (by decide)
  | index => exact key 91 [100, 93] (by kernel_rfl) (seg_index _) (by kernel_rfl) (by kernel_rfl) (by decide)
  | meth => exact key 46 [109, 40, 41] (by kernel_rfl) (seg_meth _) (by kernel_rfl) (by kernel_rfl) (by decide)
  | bare =>
    have e2 : (x ++ Way.txt .bare).cps.toList = [c0] := by
      show (x.cps ++ #[]).toList = _
      rw [Array.toList_append, hx]; rfl
    rw [e2]
    exact a.weaken (nxE_all (by kernel_rfl) (by kernel_rfl) (by kernel_rfl))
/-- a name, and what stands behind it -/
theorem name_piece {n : Nat} {x : Str} (w : Way) (hx : x ∈ (["a", "b", "x", "c", "d", "e"] : List Str)) : UP n (x ++ w.txt) (some (w.tree (n + 1) (pathT x n))) 49 6 := by
  have hm : x ∈ nms := by
    have : ∀ y ∈ (["a", "b", "x", "c", "d", "e"] : List Str), y ∈ nms := by decide
    exact this x hx
  obtain ⟨c0, e0, h1, h2, h3, h4⟩ := nms_cps hm
  have hfs : FS c0 = true := by
    have all : (["a", "b", "x", "c", "d", "e"] : List Str).all (fun s => match s.cps.toList with | [c0] => FS c0 | _ => false) = true := by kernel_rfl
    have := List.all_eq_true.mp all x hx
    rw [e0] at this; exact this
  have hbeg : (nm x (n : Nat)).among begins = true := List.any_eq_true.mpr ⟨("name", x), List.mem_append_left _ (List.mem_map_of_mem hm), by simp⟩
  have hh0 : head0 (nm x (n : Nat)) = true := List.any_eq_true.mpr ⟨("name", x), List.mem_append_left _ (List.mem_map_of_mem hm), by simp⟩
  have hpt := path_ok (p := (n : Nat)) hm
  have base : ∀ {T2 : List Tk} {f : AV → AV} {N2 : Nat}, (T2 = [] ∨ ∃ t l, T2 = t :: l ∧ t.among stops0 = true) → N2 ≤ 38 → Par 420 [pathT x n] T2 (some (f (pathT x n))) N2 stops1 → Par 406 [.bool false] (nm x (n : Nat) :: T2) (some (f (pathT x n))) 49 stops1 := fun {T2 f N2} h hN hq => by
    have := unary_base (T1 := [nm x (n : Nat)]) (T2 := T2) (r1 := some (pathT x n)) (f := f) ⟨_, _, rfl, hh0⟩ h (prim_name hm) (fun b e => by cases e; exact hq)
    exact this.more (by (first | lia | omega)) fun p h => h
  refine ⟨⟨_, c0, w.txt.cps.toList, way_seg w e0 h1 h2, ?_, hfs, ⟨_, _, rfl, hbeg⟩, ?_⟩, fun t e => ?_⟩
  · show (x.cps ++ w.txt.cps).toList = _
    rw [Array.toList_append, e0]; rfl
  · cases w with
    | field => exact base (f := fun b => .tup [.str "field", .int n, b, .str "f"]) (.inr ⟨_, _, rfl, by rfl⟩) (by decide) (post_field (by decide) rfl)
    | call =>
      have := base (f := fun b => .tup [.str "call", .int n, b, .tup [pathT "c" ((n + 2 : Nat) : Int)]]) (T2 := Way.toks (n + 1) .call) (.inr ⟨_, _, rfl, by rfl⟩) (Nat.le_refl _) (post_call (x := "c") (by decide) rfl)
      have e : (((n + 1 : Nat) : Int) + 1) = ((n + 2 : Nat) : Int) := by (first | lia | omega)
      unfold Way.tree
      rw [e]; exact this
    | index =>
      have := base (f := fun b => .tup [.str "index", .int n, b, pathT "d" ((n + 2 : Nat) : Int)]) (T2 := Way.toks (n + 1) .index) (.inr ⟨_, _, rfl, by rfl⟩) (Nat.le_refl _) (post_index (x := "d") (by decide) rfl)
      have e : (((n + 1 : Nat) : Int) + 1) = ((n + 2 : Nat) : Int) := by (first | lia | omega)
      unfold Way.tree
      rw [e]; exact this
    | meth => exact base (f := fun b => .tup [.str "method", .int n, b, .str "m", .tup [], .tup []]) (.inr ⟨_, _, rfl, by rfl⟩) (by decide) (post_method (by decide) rfl)
    | bare => exact base (f := id) (.inl rfl) (by decide) post0
  · cases e
    cases w with
    | field => exact ⟨rfl, datOK_tup (allC (datOK_str (by kernel_rfl)) (allC datOK_int (allC (hpt.2.up (by decide)) (all1 (datOK_str (by kernel_rfl))))))⟩
    | call => exact ⟨rfl, datOK_tup (allC (datOK_str (by kernel_rfl)) (allC datOK_int (allC (hpt.2.up (by decide)) (all1 (datOK_tup (all1 (path_ok (x := "c") (by decide)).2))))))⟩
    | index => exact ⟨rfl, datOK_tup (allC (datOK_str (by kernel_rfl)) (allC datOK_int (allC (hpt.2.up (by decide)) (all1 ((path_ok (x := "d") (by decide)).2.up (by decide))))))⟩
    | meth => exact ⟨rfl, datOK_tup (allC (datOK_str (by kernel_rfl)) (allC datOK_int (allC (hpt.2.up (by decide)) (allC (datOK_str (by kernel_rfl)) (allC (datOK_tup (K := 4) allN) (all1 (datOK_tup (K := 4) allN)))))))⟩
    | bare => exact hpt.up (by decide)

/-! # Text WQB -/
/-! # Signs ahead, casts behind, parentheses around -/
theorem cps_append (x y : Str) : (x ++ y).cps.toList = x.cps.toList ++ y.cps.toList := by
  show (x.cps ++ y.cps).toList = _
  rw [Array.toList_append]
theorem len_append (x y : Str) : (x ++ y).length = x.length + y.length := by
  have := congrArg List.length (cps_append x y)
  rw [List.length_append, len_cps, len_cps, len_cps] at this
  exact this
theorem str_assoc (x y z : Str) : x ++ y ++ z = x ++ (y ++ z) := str_ext (by simp only [cps_append, List.append_assoc])
noncomputable def SIGL : List Str := ["-", "!", "*", "& ", "&mut "]
noncomputable def signT (s : Str) (p : Int) (t : AV) : AV := if s == "& " || s == "&mut " then .tup [.str "borrow", .int p, .bool (s == "&mut "), t] else .tup [.str "unary", .int p, .str s, t]
theorem sign_tree {K : Nat} {s : Str} {p : Int} {t : AV} (hs : s ∈ SIGL) (h : TreeOK K t) : TreeOK (K + 1) (signT s p t) := by
  unfold signT
  have hok : PyData.strOk s = true := List.all_eq_true.mp (by kernel_rfl : SIGL.all (fun s => PyData.strOk s) = true) s hs
  split
  · exact ⟨rfl, datOK_tup (allC (datOK_str (by kernel_rfl)) (allC datOK_int (allC datOK_bool (all1 h.2))))⟩
  · exact ⟨rfl, datOK_tup (allC (datOK_str (by kernel_rfl)) (allC datOK_int (allC (datOK_str hok) (all1 h.2))))⟩
theorem begins_sg {s : Str} {p : Int} (h : (("sign" : Str), s) ∈ begins) : (sg s p).among begins = true := List.any_eq_true.mpr ⟨_, h, by simp⟩
theorem sign_one {n N K : Nat} {s x : Str} {r : Option AV} {c k : Nat} (hs : s ∈ (["-", "!", "*"] : List Str)) (hk : SG[k]? = some s) (hc : s.cps.toList = [c]) (h1 : chC c NB = false) (h2 : chC c FG = false) (h3 : c ≠ 39) (h4 : FS c = true) (h5 : ([45, 33, 42, 38, 97, 98, 120, 40, 99, 100, 101] : List Nat).all (fun c => nxSign k s (some c)) = true)
    (h6 : (("sign" : Str), s) ∈ begins) (hb : (s == "& " || s == "&mut ") = false) (h : UP (n + s.length) x r N K) : UP n (s ++ x) (r.map (signT s n)) (N + 6) (K + 1) := by
  obtain ⟨⟨T, c0, cr, hseg, hx, hfs, hbeg, hpar⟩, htr⟩ := h
  have hl : s.length = 1 := by rw [← len_cps, hc]; rfl
  have hsig : s ∈ SIGL := by
    have : ∀ y ∈ (["-", "!", "*"] : List Str), y ∈ SIGL := by decide
    exact this s hs
  rw [hl] at hseg
  refine ⟨⟨sg s n :: T, c, c0 :: cr, ?_, by rw [cps_append, hc, hx]; rfl, h4, ⟨_, _, rfl, begins_sg h6⟩, ?_⟩, fun t e => ?_⟩
  · rw [cps_append, hc, hx]
    rw [hx] at hseg
    exact Seg.app (cs1 := [c]) (T1 := [sg s n]) (segS n k hk hc h1 h2 h3) hseg (FS_all (P := fun c => nxSign k s (some c)) h5 hfs) (FS_nb hfs) (FS_ns hfs)
  · have := unary_sign (p := (n : Nat)) hs hpar
    have e : r.map (signT s n) = r.map fun t => AV.tup [.str "unary", .int (n : Nat), .str s, t] := by
      unfold signT
      rw [hb]
      simp
    rw [e]
    exact this.more (by (first | lia | omega)) fun p h => h
  · obtain ⟨t0, e0, rfl⟩ := Option.map_eq_some_iff.mp e
    exact sign_tree hsig (htr t0 e0)
theorem sign_piece {n N K : Nat} {s x : Str} {r : Option AV} (hs : s ∈ SIGL) (h : UP (n + s.length) x r N K) : UP n (s ++ x) (r.map (signT s n)) (N + 6) (K + 1) := by
  have hs' : s = "-" ∨ s = "!" ∨ s = "*" ∨ s = "& " ∨ s = "&mut " := by simpa [SIGL] using hs
  rcases hs' with rfl | rfl | rfl | rfl | rfl
  · exact sign_one (k := 37) (c := 45) (by decide) (by kernel_rfl) (by kernel_rfl) (by kernel_rfl) (by kernel_rfl) (by decide) (by kernel_rfl) (by kernel_rfl) (by decide) (by decide) h
  · exact sign_one (k := 44) (c := 33) (by decide) (by kernel_rfl) (by kernel_rfl) (by kernel_rfl) (by kernel_rfl) (by decide) (by kernel_rfl) (by kernel_rfl) (by decide) (by decide) h
  · exact sign_one (k := 38) (c := 42) (by decide) (by kernel_rfl) (by kernel_rfl) (by kernel_rfl) (by kernel_rfl) (by decide) (by kernel_rfl) (by kernel_rfl) (by decide) (by decide) h
  · obtain ⟨⟨T, c0, cr, hseg, hx, hfs, hbeg, hpar⟩, htr⟩ := h
    have hl : (str "& ").length = 2 := by kernel_rfl
    have hc : (str "& ").cps.toList = [38] ++ [32] := by kernel_rfl
    rw [hl] at hseg
    refine ⟨⟨sg "&" n :: T, 38, 32 :: c0 :: cr, ?_, by rw [cps_append, hc, hx]; rfl, by kernel_rfl, ⟨_, _, rfl, begins_sg (by decide)⟩, ?_⟩, fun t e => ?_⟩
    · rw [cps_append, hc, hx, List.append_assoc]
      rw [hx] at hseg
      exact Seg.sp (cs1 := [38]) (T1 := [sg "&" n]) (segS (s := "&") n 41 (by kernel_rfl) (by kernel_rfl) (by kernel_rfl) (by kernel_rfl) (by decide)) hseg (by kernel_rfl) (FS_nb hfs) (FS_ns hfs)
    · have := unary_ref (p := (n : Nat)) (borrow_ok hbeg hpar)
      have e : r.map (signT "& " n) = r.map fun t => AV.tup [.str "borrow", .int (n : Nat), .bool false, t] := rfl
      rw [e]
      exact this.more (by (first | lia | omega)) fun p h => h
    · obtain ⟨t0, e0, rfl⟩ := Option.map_eq_some_iff.mp e
      exact sign_tree hs (htr t0 e0)
  · obtain ⟨⟨T, c0, cr, hseg, hx, hfs, hbeg, hpar⟩, htr⟩ := h
    have hl : (str "&mut ").length = 5 := by kernel_rfl
    have hc : (str "&mut ").cps.toList = ([38] ++ [109, 117, 116]) ++ [32] := by kernel_rfl
    rw [hl] at hseg
    refine ⟨⟨[sg "&" n, nm "mut" (n + 1 : Nat)] ++ T, 38, [109, 117, 116, 32] ++ c0 :: cr, ?_, by rw [cps_append, hc, hx]; rfl, by kernel_rfl, ⟨_, _, rfl, begins_sg (by decide)⟩, ?_⟩, fun t e => ?_⟩
    · rw [cps_append, hc, hx, List.append_assoc]
      rw [hx] at hseg
      have a := Seg.app (cs1 := [38]) (T1 := [sg "&" n]) (segS (s := "&") n 41 (by kernel_rfl) (by kernel_rfl) (by kernel_rfl) (by kernel_rfl) (by decide)) (segN (s := "mut") (n + 1) (c0 := 109) (r := [117, 116]) (by kernel_rfl) (by kernel_rfl) (by kernel_rfl)) (by kernel_rfl) (by kernel_rfl) (by decide)
      exact Seg.sp a hseg (by kernel_rfl) (FS_nb hfs) (FS_ns hfs)
    · have := unary_ref (p := (n : Nat)) (borrow_mut (p := (n : Nat)) (p2 := (n + 1 : Nat)) hpar)
      have e : r.map (signT "&mut " n) = r.map fun t => AV.tup [.str "borrow", .int (n : Nat), .bool true, t] := rfl
      rw [e]
      exact this.more (by (first | lia | omega)) fun p h => h
    · obtain ⟨t0, e0, rfl⟩ := Option.map_eq_some_iff.mp e
      exact sign_tree hs (htr t0 e0)
theorem cast_none {n N K : Nat} {x : Str} {r : Option AV} (h : UP n x r N K) : OP n x r (N + 4) K := by
  obtain ⟨⟨T, c0, cr, hseg, hx, hfs, hbeg, hpar⟩, htr⟩ := h
  refine ⟨⟨T, c0, cr, hseg, hx, hfs, hbeg, ?_⟩, htr⟩
  have := cast_ok (T1 := T) (T2 := []) (r1 := r) (f := id) (N2 := 3) (.inl rfl) hpar (fun b _ => cast0)
  rw [List.append_nil, Option.map_id] at this
  exact this.more (by (first | lia | omega)) fun p h => h
noncomputable def castT (m : Int) (t : AV) : AV := .tup [.str "cast", .int (spotD t), t, pathT "T" (m + 5)]
theorem cast_tree {K : Nat} {m : Int} {t : AV} (h : TreeOK K t) : TreeOK (K + 5) (castT m t) :=
  ⟨rfl, datOK_tup (allC (datOK_str (by kernel_rfl)) (allC datOK_int (allC (h.2.up (by (first | lia | omega))) (all1 ((path_ok (x := "T") (by decide)).2.up (by (first | lia | omega)))))))⟩
theorem cast_some {n N K : Nat} {x : Str} {r : Option AV} (h : UP n x r N K) : OP n (x ++ " as (T)") (r.map (castT ((n + x.length : Nat) : Int))) (N + 11) (K + 5) := by
  obtain ⟨⟨T, c0, cr, hseg, hx, hfs, hbeg, hpar⟩, htr⟩ := h
  have hc : (str " as (T)").cps.toList = 32 :: 97 :: [115, 32, 40, 84, 41] := by kernel_rfl
  have hl : (c0 :: cr).length = x.length := by rw [← hx, len_cps]
  obtain ⟨m, em⟩ : ∃ m, m = n + x.length := ⟨_, rfl⟩
  rw [← em]
  refine ⟨⟨T ++ [nm "as" (m + 1 : Nat), sg "(" (m + 4 : Nat), nm "T" (m + 5 : Nat), sg ")" (m + 6 : Nat)], c0, cr ++ 32 :: 97 :: [115, 32, 40, 84, 41], ?_, by rw [cps_append, hc, hx]; rfl, hfs, ?_, ?_⟩, fun t e => ?_⟩
  · rw [cps_append, hc, hx]
    rw [hx] at hseg
    have a := Seg.app (nx2 := nxName) (cs1 := [40]) (T1 := [sg "(" (m + 4 : Nat)]) (segS (s := "(") (m + 4) 23 (by kernel_rfl) (by kernel_rfl) (by kernel_rfl) (by kernel_rfl) (by decide)) (segN (s := "T") (m + 5) (c0 := 84) (r := []) (by kernel_rfl) (by kernel_rfl) (by kernel_rfl)) (by kernel_rfl) (by kernel_rfl) (by decide)
    have b := Seg.app a (segS (s := ")") (m + 6) 24 (by kernel_rfl) (c0 := 41) (r := []) (by kernel_rfl) (by kernel_rfl) (by kernel_rfl) (by decide)) (by kernel_rfl) (by kernel_rfl) (by decide)
    have d := Seg.sp (cs1 := [97, 115]) (c := 40) (r := [84, 41]) (T1 := [nm "as" (m + 1 : Nat)]) (segN (s := "as") (m + 1) (c0 := 97) (r := [115]) (by kernel_rfl) (by kernel_rfl) (by kernel_rfl)) b (by kernel_rfl) (by kernel_rfl) (by decide)
    have f := Seg.sp (nx2 := nxE) (c := 97) (r := [115, 32, 40, 84, 41]) hseg (by rw [hl, ← em]; exact d.weaken (nxE_all (by kernel_rfl) (by kernel_rfl) (by kernel_rfl))) (by kernel_rfl) (by kernel_rfl) (by decide)
    exact f
  · obtain ⟨t, l, e, ht⟩ := hbeg
    exact ⟨t, l ++ _, by rw [e]; rfl, ht⟩
  · have := cast_ok (T1 := T) (T2 := [nm "as" (m + 1 : Nat), sg "(" (m + 4 : Nat), nm "T" (m + 5 : Nat), sg ")" (m + 6 : Nat)]) (r1 := r) (f := castT (m : Nat)) (N2 := 10) (.inr ⟨_, _, rfl, by rfl⟩) hpar (fun b e => by
      obtain ⟨sp, es⟩ := Option.isSome_iff_exists.mp (htr b e).1
      have := cast1 (p := (m + 1 : Nat)) (p0 := (m + 4 : Nat)) (p1 := (m + 5 : Nat)) (p2 := (m + 6 : Nat)) es
      unfold castT
      have e1 : spotD b = sp := by unfold spotD; rw [es]; rfl
      have e2 : ((m : Nat) : Int) + 5 = ((m + 5 : Nat) : Int) := by (first | lia | omega)
      rw [e1, e2]; exact this)
    exact this.more (by (first | lia | omega)) fun p h => h
  · obtain ⟨t0, e0, rfl⟩ := Option.map_eq_some_iff.mp e
    exact cast_tree (htr t0 e0)
theorem paren_piece {n N K : Nat} {x : Str} {r : Option AV} (h : DP (n + 1) x r N K) : UP n ("(" ++ x ++ ")") r (N + 11) K := by
  obtain ⟨⟨T, c0, cr, hseg, hx, hfs, hbeg, hpar⟩, htr⟩ := h
  have ho : (str "(").cps.toList = [40] := by kernel_rfl
  have hc : (str ")").cps.toList = [41] := by kernel_rfl
  have hl : (c0 :: cr).length = x.length := by rw [← hx, len_cps]
  refine ⟨⟨sg "(" n :: (T ++ [sg ")" (n + 1 + x.length : Nat)]), 40, c0 :: cr ++ [41], ?_, by rw [cps_append, cps_append, ho, hc, hx]; rfl, by kernel_rfl, ⟨_, _, rfl, begins_sg (by decide)⟩, ?_⟩, htr⟩
  · rw [cps_append, cps_append, ho, hc, hx]
    rw [hx] at hseg
    have a := Seg.app (cs1 := [40]) (T1 := [sg "(" n]) (segS (s := "(") n 23 (by kernel_rfl) (by kernel_rfl) (by kernel_rfl) (by kernel_rfl) (by decide)) hseg (FS_all (P := fun c => nxSign 23 "(" (some c)) (by kernel_rfl) hfs) (FS_nb hfs) (FS_ns hfs)
    have e : n + ([40] ++ c0 :: cr).length = n + 1 + x.length := by rw [List.length_append, hl]; simp; (first | lia | omega)
    have b := Seg.app (c := 41) (r := []) a (by rw [e]; exact (segS (s := ")") (n + 1 + x.length) 24 (by kernel_rfl) (by kernel_rfl) (by kernel_rfl) (by kernel_rfl) (by decide)).weaken (nxE_all (by kernel_rfl) (by kernel_rfl) (by kernel_rfl))) (by kernel_rfl) (by kernel_rfl) (by decide)
    exact b
  · have := unary_base (T2 := []) (f := id) (N2 := 3) ⟨_, _, rfl, by rfl⟩ (.inl rfl) (prim_paren (p0 := (n : Nat)) (p1 := (n + 1 + x.length : Nat)) hbeg hpar) (fun b _ => post0)
    rw [List.append_nil, Option.map_id] at this
    exact this.more (by (first | lia | omega)) fun p h => h
/-! # Rows of operands -/
structure Row (n : Nat) (x : Str) (trees : List (Option AV)) (ops : List Str) (N K : Nat) : Prop where
  ex : ∃ (o : Opn) (its : List Item) (c0 : Nat) (cr : List Nat), Seg nxE n x.cps.toList (o.T ++ toks its) ∧ x.cps.toList = c0 :: cr ∧ FS c0 = true ∧ (∃ t l, o.T = t :: l ∧ t.among begins = true) ∧ Par 392 [.bool false] o.T o.r N stops2 ∧ (∀ it ∈ its, OkItem N it) ∧ trees = o.r :: its.map (fun it => it.o.r) ∧ ops = its.map (·.op)
  tr : ∀ t, some t ∈ trees → TreeOK K t
theorem row_one {n N K : Nat} {x : Str} {r : Option AV} (h : OP n x r N K) : Row n x [r] [] N K := by
  obtain ⟨⟨T, c0, cr, hseg, hx, hfs, hbeg, hpar⟩, htr⟩ := h
  exact ⟨⟨⟨T, r⟩, [], c0, cr, by rw [show toks [] = [] from rfl, List.append_nil]; exact hseg, hx, hfs, hbeg, hpar, (fun _ h => nomatch h), rfl, rfl⟩, fun t ht => htr t (List.mem_singleton.mp ht).symm⟩
theorem ops_sign {op : Str} (h : op ∈ opsS) : ∃ k c0 r, SG[k]? = some op ∧ op.cps.toList = c0 :: r ∧ chC c0 NB = false ∧ chC c0 FG = false ∧ c0 ≠ 39 ∧ chC c0 BL = false ∧ c0 ≠ 47 ∧ nxSign k op (some 32) = true := by
  have all : opsS.all (fun op => (List.range 46).any fun k => (SG[k]? == some op) && (match op.cps.toList with | c0 :: _ => !chC c0 NB && !chC c0 FG && !Nat.beq c0 39 && !chC c0 BL && !Nat.beq c0 47 | [] => false) && nxSign k op (some 32)) = true := by kernel_rfl
  have := List.all_eq_true.mp all op h
  obtain ⟨k, _, hk⟩ := List.any_eq_true.mp this
  simp only [Bool.and_eq_true] at hk
  obtain ⟨⟨h1, h2⟩, h3⟩ := hk
  split at h2
  · rename_i c0 r e
    simp only [Bool.and_eq_true, Bool.not_eq_true'] at h2
    obtain ⟨⟨⟨⟨g1, g2⟩, g3⟩, g4⟩, g5⟩ := h2
    exact ⟨k, c0, r, eq_of_beq h1, e, g1, g2, (fun z => by rw [z] at g3; cases g3), g4, (fun z => by rw [z] at g5; cases g5), h3⟩
  · cases h2
theorem opsS_L {op : Str} (h : op ∈ opsS) : (("sign" : Str), op) ∈ opsL := by
  have : ∀ op ∈ opsS, (("sign" : Str), op) ∈ opsL := by decide
  exact this op h
theorem toks_snoc (a : List Item) (it : Item) : toks (a ++ [it]) = toks a ++ (sg it.op it.pos :: it.o.T) := by
  rw [toks_append]
  show _ ++ (sg it.op it.pos :: (it.o.T ++ toks [])) = _
  rw [show toks [] = [] from rfl, List.append_nil]
theorem row_more {n N K : Nat} {x y op : Str} {trees : List (Option AV)} {ops : List Str} {r : Option AV} (h : Row n x trees ops N K) (hop : op ∈ opsS) (g : OP (n + (x ++ " " ++ op ++ " ").length) y r N K) : Row n (x ++ " " ++ op ++ " " ++ y) (trees ++ [r]) (ops ++ [op]) N K := by
  obtain ⟨⟨o, its, c0, cr, hseg, hx, hfs, hbeg, hpar, hok, et, eo⟩, htr⟩ := h
  obtain ⟨⟨T, d0, dr, gseg, gx, gfs, gbeg, gpar⟩, gtr⟩ := g
  obtain ⟨k, a0, ar, hk, ha, h1, h2, h3, h4, h5, h6⟩ := ops_sign hop
  have hsp : (str " ").cps.toList = [32] := by kernel_rfl
  have hl : (c0 :: cr).length = x.length := by rw [← hx, len_cps]
  have hla : (a0 :: ar).length = op.length := by rw [← ha, len_cps]
  have hlen : (x ++ " " ++ op ++ " ").length = x.length + 1 + op.length + 1 := by rw [len_append, len_append, len_append]; rfl
  obtain ⟨p, ep⟩ : ∃ p, p = n + x.length + 1 := ⟨_, rfl⟩
  rw [hlen] at gseg
  refine ⟨⟨o, its ++ [⟨op, (p : Nat), ⟨T, r⟩⟩], c0, cr ++ 32 :: a0 :: (ar ++ 32 :: d0 :: dr), ?_, by rw [cps_append, cps_append, cps_append, cps_append, hsp, hx, ha, gx]; simp, hfs, hbeg, hpar, fun it hi => ?_, by rw [et]; simp, by rw [eo]; simp⟩, fun t ht => ?_⟩
  · have e : (x ++ " " ++ op ++ " " ++ y).cps.toList = c0 :: cr ++ 32 :: a0 :: (ar ++ 32 :: d0 :: dr) := by rw [cps_append, cps_append, cps_append, cps_append, hsp, hx, ha, gx]; simp
    rw [e, toks_snoc, ← List.append_assoc]
    rw [hx] at hseg
    rw [gx] at gseg
    have sgn := segS p k hk ha h1 h2 h3
    have a := Seg.sp (nx2 := nxE) (cs1 := a0 :: ar) (c := d0) (r := dr) sgn (by
      have e2 : p + (a0 :: ar).length + 1 = n + (x.length + 1 + op.length + 1) := by rw [hla, ep]; (first | lia | omega)
      rw [e2]; exact gseg) h6 (FS_nb gfs) (FS_ns gfs)
    exact Seg.sp (cs1 := c0 :: cr) (c := a0) (r := ar ++ 32 :: d0 :: dr) hseg (by rw [hl, ← ep]; exact a) (by kernel_rfl) h4 h5
  · rcases List.mem_append.mp hi with hi | hi
    · exact hok it hi
    · cases List.mem_singleton.mp hi
      exact ⟨opsS_L hop, gpar, fun t e => (gtr t e).1⟩
  · rcases List.mem_append.mp ht with ht | ht
    · exact htr t ht
    · exact gtr t (List.mem_singleton.mp ht).symm
theorem opT_dat {K : Nat} {op : Str} {l r : AV} (ho : op ∈ opsS) (hl : DatOK K l) (hr : DatOK K r) : TreeOK (K + 1) (opT op l r) := by
  refine ⟨opT_spot op l r, ?_⟩
  unfold opT assT binT
  split
  · split
    · exact datOK_tup (allC (datOK_str (by kernel_rfl)) (allC datOK_int (allC hl (all1 hr))))
    · exact datOK_tup (allC (datOK_str (by kernel_rfl)) (allC datOK_int (allC (datOK_str (by kernel_rfl)) (allC hl (all1 hr)))))
  · exact datOK_tup (allC (datOK_str (by kernel_rfl)) (allC datOK_int (allC (datOK_str (ops_strOk ho)) (allC hl (all1 hr)))))
theorem parted_dat {K : Nat} : ∀ (f : Nat) (trees : List AV) (ops : List Str) {t : AV}, (∀ t ∈ trees, TreeOK K t) → (∀ o ∈ ops, o ∈ opsS) → parted f trees ops = some t → TreeOK (K + ops.length) t
  | 0, _, _, _, _, _, h => by cases h
  | f + 1, trees, ops, t, hs, ho, h => by
    unfold parted at h
    split at h
    · cases trees with
      | nil => cases h
      | cons a l => cases h; exact (hs _ (.head _)).up (by (first | lia | omega))
    · rename_i hne
      have hlsne : ops.map levS ≠ [] := by intro e; exact hne (by simpa using e)
      obtain ⟨ha1, _⟩ := at_lt hlsne
      rw [List.length_map] at ha1
      split at h
      · cases h
      · unfold both at h
        split at h
        · rename_i l r e1 e2
          cases h
          have h1 := parted_dat f _ _ (fun t ht => hs t (List.mem_of_mem_take ht)) (fun o h => ho o (List.mem_of_mem_take h)) e1
          have h2 := parted_dat f _ _ (fun t ht => hs t (List.mem_of_mem_drop ht)) (fun o h => ho o (List.mem_of_mem_drop h)) e2
          rw [List.length_take] at h1
          rw [List.length_drop] at h2
          have hin : ops.getD (atOf (ops.map levS)) "" ∈ opsS := by
            rw [List.getD_eq_getElem?_getD, List.getElem?_eq_getElem ha1]
            exact ho _ (List.getElem_mem ha1)
          exact (opT_dat (K := K + ops.length - 1) hin (h1.2.up (by (first | lia | omega))) (h2.2.up (by (first | lia | omega)))).up (by (first | lia | omega))
        · cases h
/-- what the law computes of a row -/
noncomputable def rowR (trees : List (Option AV)) (ops : List Str) : Option AV := if trees.any (fun r => r.isNone) then none else parted (ops.length + 1) (trees.map fun r => r.getD .none) ops
theorem row_done {n N K : Nat} {x : Str} {trees : List (Option AV)} {ops : List Str} (h : Row n x trees ops N K) (hop : ∀ o ∈ ops, o ∈ opsS) : DP n x (rowR trees ops) (N + 3 * (ops.length + 1) + 13) (K + ops.length) := by
  obtain ⟨⟨o, its, c0, cr, hseg, hx, hfs, hbeg, hpar, hok, et, eo⟩, htr⟩ := h
  have hlen : ops.length = its.length := by rw [eo]; simp
  have hor : ∀ t, o.r = some t → TreeOK K t := fun t e => htr t (by rw [et, e]; exact .head _)
  refine ⟨⟨o.T ++ toks its, c0, cr, hseg, hx, hfs, ?_, ?_⟩, fun t e => ?_⟩
  · obtain ⟨t, l, e, ht⟩ := hbeg
    exact ⟨t, l ++ _, by rw [e]; rfl, ht⟩
  · have P := read_expr_ok hok hpar (fun t e => (hor t e).1)
    have e : expr (its.length + 1) o its = rowR trees ops := by
      unfold rowR
      split
      · rename_i hany
        refine expr_none ?_
        obtain ⟨r, hr, hn⟩ := List.any_eq_true.mp hany
        rw [et] at hr
        rcases List.mem_cons.mp hr with rfl | hr
        · exact .inl (by simpa using hn)
        · obtain ⟨it, hi, rfl⟩ := List.mem_map.mp hr
          exact .inr ⟨it, hi, by simpa using hn⟩
      · rename_i hany
        have hall : ∀ r ∈ trees, r.isSome = true := fun r hr => by
          cases r with
          | none => exact absurd (List.any_eq_true.mpr ⟨none, hr, rfl⟩) hany
          | some t => rfl
        obtain ⟨t0, e0⟩ := Option.isSome_iff_exists.mp (hall o.r (by rw [et]; exact .head _))
        have hw : Whole its := fun it hi => hall it.o.r (by rw [et]; exact .tail _ (List.mem_map.mpr ⟨it, hi, rfl⟩))
        rw [expr_parts (its.length + 1) (its.length + 1) o its t0 (Nat.lt_succ_self _) (Nat.lt_succ_self _) e0 hw (fun it hi => (hok it hi).op)]
        show parted (its.length + 1) (t0 :: its.map tr) (its.map (·.op)) = _
        rw [hlen, eo, et, List.map_cons, e0, List.map_map]
        rfl
    rw [← e, hlen]
    exact P
  · unfold rowR at e
    split at e
    · cases e
    · rename_i hany
      refine parted_dat (K := K) _ _ _ (fun t ht => ?_) hop e
      obtain ⟨r, hr, rfl⟩ := List.mem_map.mp ht
      cases r with
      | none => exact absurd (List.any_eq_true.mpr ⟨none, hr, rfl⟩) hany
      | some t => exact htr t hr

/-! # Text WQC -/
/-! # For loops, their invariants told behind the source -/
section
variable {c : Fc} {ρ : List (Str × AV)} {σ : Store} {Q : Fl → List (Str × AV) → Store → Prop} {X : Store → Prop}
theorem S_forLX {target : Expr} {pos : Pos} {iter : Expr} {body : List Stmt}
    (h : Ev c ρ [] iter σ (fun a σ₁ => ∃ (t : Addr) (as : List AV) (I : Nat → List (Str × AV) → Store → Prop), a = .loc t ∧ σ₁ t = some (.list as) ∧ I 0 ρ σ₁ ∧ (∀ k ρ' σ', I k ρ' σ' → σ' t = some (.list as)) ∧
      (∀ k a ρ' σ', as[k]? = some a → I k ρ' σ' → ∃ ρ₁ ρ₂, SubL ρ' ρ₁ ∧ TgtJ c ρ₁ target a σ' ρ₂ ∧ JS c ρ₂ body σ' (loopQ (I (k + 1)) Q) X) ∧
      (∀ ρ' σ', I as.length ρ' σ' → ∃ ρ₁, SubL ρ' ρ₁ ∧ Q .next ρ₁ σ')) X)
    (hown : ∀ it t A (v : Value) s', s'.heap.IsListIter it t 0 ∨ (∃ k, s'.heap.IsListIter it t k) → ∀ (Q' : Unit → Shared → Prop) (E' : Value → Shared → Prop), Q' () s' → wpAny (model pw c.w) A (letOwnedTupleGo target (.ref it) v) Q' E' s')
    (hs : ∀ x, foldedSetIterable iter c.env x = pure x) : J1 c ρ (.For target iter body [] pos) σ Q X := fun A outer s F =>
  wpAny_For (h.go F (fun v a s₁ σ₁ G r ⟨t, as, I, e, sd, i0, hsd, turn, fin⟩ => by
    subst e
    obtain rfl : v = .ref t := r
    have F₁ := F.stepL G
    obtain ⟨o, n, vs, g, cl, _, d, rs⟩ := cell_at F₁ sd
    have T : s₁.heap.IsList t vs.toArray := ⟨o, g, cl, n, d⟩
    refine wpAny_pyIter_list T ?_
    have G2 : Good c.w c.H none s₁ σ₁ { s₁ with heap := s₁.heap.push { cls := .type "list_iterator", data := .fields #[.ref t, .int 0 0] } } σ₁ := .keep F₁.ok ⟨rfl, rfl, rfl⟩ push_keep
    have F₂ := F₁.stepL G2
    have nw : ∀ b o, s₁.heap.get? b = some o → b ≠ s₁.heap.objs.size := fun b o e => Nat.ne_of_lt (Heap.lt_size e)
    refine for_core (iter_list (t := t)) I hsd turn fin (G.trans G2 noneK).up F₂ (fun b o e n _ => nw b o (G.evo b o e n (fun q => nomatch q))) F₁.ok.fresh (none_at_end F₁.ok.stays) (fun e he L hL q => ?_) ⟨_, Heap.get?_push_size _ rfl, rfl, rfl⟩ i0 (fun v => .inr fun k s' st Q' E' q => hown _ _ _ v s' (.inr ⟨k, st⟩) Q' E' q)
    obtain ⟨⟨o, e'⟩, _⟩ := F₁.frameThere he hL
    exact nw _ _ e' q) fun _ _ x => SExc.of x) hs
theorem S_forRX {x : Str} {px pos : Pos} {iter : Expr} {body : List Stmt} (hx : c.loc.contains x = true)
    (h : Ev c ρ [] iter σ (fun a σ₁ => ∃ (t : Addr) (n : Nat) (I : Nat → List (Str × AV) → Store → Prop), a = .loc t ∧ n ≤ 2 ^ 40 ∧ σ₁ t = some (.rng n) ∧ I 0 ρ σ₁ ∧
      (∀ k ρ' σ', k < n → I k ρ' σ' → ∃ ρ₁, SubL ρ' ρ₁ ∧ JS c (upd ρ₁ x (.int (k : Nat))) body σ' (loopQ (I (k + 1)) Q) X) ∧
      (∀ ρ' σ', I n ρ' σ' → ∃ ρ₁, SubL ρ' ρ₁ ∧ Q .next ρ₁ σ')) X) (hs : ∀ x, foldedSetIterable iter c.env x = pure x) : J1 c ρ (.For (.Name x px) iter body [] pos) σ Q X := fun A outer s F =>
  wpAny_For (h.go F (fun v a s₁ σ₁ G r ⟨t, n, I, e, hn, sd, i0, turn, fin⟩ => by
    subst e
    obtain rfl : v = .ref t := r
    have F₁ := F.stepL G
    obtain ⟨tt, u, v, hr⟩ := cell_at F₁ sd
    have es : Builtin.Range.rangeSize 0 n 1 = n := by
      rw [rangeSize_one]; split <;> (first | lia | omega)
    refine wpAny_pyIter_range hr (small_one (by decide) (by decide) (by (first | lia | omega)) (by (first | lia | omega))) ?_
    rw [es]
    have G2 : Good c.w c.H none s₁ σ₁ { s₁ with heap := s₁.heap.push { cls := .type "range_iterator", data := .fields #[rawInt 0, rawInt n, rawInt 1] } } σ₁ := .keep F₁.ok ⟨rfl, rfl, rfl⟩ push_keep
    have F₂ := F₁.stepL G2
    have nw : ∀ b o, s₁.heap.get? b = some o → b ≠ s₁.heap.objs.size := fun b o e => Nat.ne_of_lt (Heap.lt_size e)
    refine for_core (iter_range (n := n)) I (fun _ _ _ _ => trivial) (fun k a ρ' σ' ha hI => ?_) (by rw [List.length_map, List.length_range]; exact fin) (G.trans G2 noneK).up F₂ (fun b o e n _ => nw b o (G.evo b o e n (fun q => nomatch q))) F₁.ok.fresh (none_at_end F₁.ok.stays) (fun e he L hL q => ?_) ?_ i0 (fun v => .inl rfl)
    · rw [List.getElem?_map] at ha
      obtain ⟨j, hj, rfl⟩ := Option.map_eq_some_iff.mp ha
      have hk : k < n := by have := (List.getElem?_eq_some_iff.mp hj).1; simpa using this
      rw [List.getElem?_range hk] at hj
      cases hj
      obtain ⟨ρ₁, h1, h2⟩ := turn k ρ' σ' hk hI
      exact ⟨ρ₁, _, h1, tgt_name hx, h2⟩
    · obtain ⟨⟨o, e'⟩, _⟩ := F₁.frameThere he hL
      exact nw _ _ e' q
    · show IsRangeIter _ _ ((0 : Nat) : Int) ((n : Int) - ((0 : Nat) : Int)) 1
      have e0 : (n : Int) - ((0 : Nat) : Int) = n := by (first | lia | omega)
      rw [e0]
      exact Heap.get?_push_size _ rfl) fun _ _ x => SExc.of x) hs
end
/-! # The signs ahead of an operand -/
noncomputable def cat : List (Str × Nat) → Str
  | [] => ""
  | (s, _) :: r => s ++ cat r
noncomputable def SignsAt : Nat → List (Str × Nat) → Prop
  | _, [] => True
  | n, (s, p) :: r => s ∈ SIGL ∧ p = n ∧ SignsAt (n + s.length) r
theorem empty_append (x : Str) : ("" : Str) ++ x = x := str_ext (by rw [cps_append]; rfl)
theorem append_empty (x : Str) : x ++ ("" : Str) = x := str_ext (by rw [cps_append]; exact List.append_nil _)
theorem cat_snoc (s : Str) (p : Nat) : ∀ ss : List (Str × Nat), cat (ss ++ [(s, p)]) = cat ss ++ s
  | [] => by show s ++ ("" : Str) = ("" : Str) ++ s; rw [append_empty, empty_append]
  | (a, q) :: r => by
    show a ++ cat (r ++ [(s, p)]) = a ++ cat r ++ s
    rw [cat_snoc s p r, str_assoc]
theorem signs_snoc {s : Str} (hs : s ∈ SIGL) : ∀ {n : Nat} {ss : List (Str × Nat)}, SignsAt n ss → SignsAt n (ss ++ [(s, n + (cat ss).length)])
  | n, [], _ => ⟨hs, rfl, trivial⟩
  | n, (a, q) :: r, ⟨h1, h2, h3⟩ => by
    refine ⟨h1, h2, ?_⟩
    have := signs_snoc hs h3
    have e : n + (cat ((a, q) :: r)).length = n + a.length + (cat r).length := by
      show n + (a ++ cat r).length = _
      rw [len_append]; (first | lia | omega)
    rw [e]; exact this
noncomputable def wrap1 (r : Option AV) (p : Str × Nat) : Option AV := r.map (signT p.1 (p.2 : Nat))
theorem signs_piece {N K : Nat} {x : Str} {r : Option AV} : ∀ {n : Nat} {ss : List (Str × Nat)}, SignsAt n ss → UP (n + (cat ss).length) x r N K → UP n (cat ss ++ x) (ss.reverse.foldl wrap1 r) (N + 6 * ss.length) (K + ss.length)
  | n, [], _, h => by
    have e : cat [] ++ x = x := empty_append x
    rw [e]; exact h
  | n, (s, p) :: ss, ⟨h1, h2, h3⟩, h => by
    subst h2
    have e : p + (cat ((s, p) :: ss)).length = p + s.length + (cat ss).length := by
      show p + (s ++ cat ss).length = _
      rw [len_append]; (first | lia | omega)
    rw [e] at h
    have ih := signs_piece h3 h
    have := sign_piece h1 ih
    rw [List.reverse_cons, List.foldl_append]
    show UP p (s ++ cat ss ++ x) _ _ _
    rw [str_assoc]
    have e1 : N + 6 * ((s, p) :: ss).length = N + 6 * ss.length + 6 := by rw [List.length_cons]; (first | lia | omega)
    have e2 : K + ((s, p) :: ss).length = K + ss.length + 1 := by rw [List.length_cons]; (first | lia | omega)
    rw [e1, e2]
    exact this
noncomputable def sgAV (p : Str × Nat) : AV := .tup [.str p.1, .int (p.2 : Nat)]
theorem cat_len {n : Nat} : ∀ {ss : List (Str × Nat)}, SignsAt n ss → (cat ss).length ≤ 5 * ss.length
  | [], _ => Nat.le_refl _
  | (s, p) :: ss, ⟨h1, _, h3⟩ => by
    have := cat_len h3
    have h5 : s.length ≤ 5 := by
      have all : ∀ s ∈ SIGL, s.length ≤ 5 := fun s hs => Nat.le_of_ble_eq_true (List.all_eq_true.mp (by kernel_rfl : SIGL.all (fun s => Nat.ble s.length 5) = true) s hs)
      exact all s h1
    show (s ++ cat ss).length ≤ 5 * (ss.length + 1)
    rw [len_append]; (first | lia | omega)
/-! # Contracts of what is drawn -/
noncomputable def OperC (d M B N K Lx : Nat) : Prop := ∀ (c : Fc) (ρ : List (Str × AV)) (σ : Store) (Q : AV → Store → Prop) (X : Store → Prop) (S : Addr) (x0 : Str), SrcAt σ S → x0.length ≤ Lx → M ≤ c.n →
  (∀ F σ' t r, SrcAt σ' S → Kept S σ σ' → σ F = none → σ' F = some (.list [.str (x0 ++ t), optA r]) → t.length ≤ B → OP x0.length t r N K → Q (.loc F) σ') → CallJ c ρ (.ref 621) [.loc S, .str x0, .int (d : Nat)] σ Q X
noncomputable def DrawC (d M B N K Lx : Nat) : Prop := ∀ (c : Fc) (ρ : List (Str × AV)) (σ : Store) (Q : AV → Store → Prop) (X : Store → Prop) (S : Addr) (x0 : Str), SrcAt σ S → x0.length ≤ Lx → M ≤ c.n →
  (∀ F σ' t r, SrcAt σ' S → Kept S σ σ' → σ F = none → σ' F = some (.list [.str (x0 ++ t), optA r]) → t.length ≤ B → DP x0.length t r N K → Q (.loc F) σ') → CallJ c ρ (.ref 628) [.loc S, .str x0, .int (d : Nat)] σ Q X
theorem Piece.up {f : Addr} {l : List AV} {Fl : List (Str × Str)} {n N N' K K' : Nat} {x : Str} {r : Option AV} (h : Piece f l Fl n x r N K) (hN : N ≤ N') (hK : K ≤ K') : Piece f l Fl n x r N' K' := by
  obtain ⟨⟨T, c0, cr, hseg, hx, hfs, hbeg, hpar⟩, htr⟩ := h
  exact ⟨⟨T, c0, cr, hseg, hx, hfs, hbeg, hpar.more hN fun p h => h⟩, fun t e => (htr t e).up hK⟩
theorem SrcAt.kept {σ σ' : Store} {S : Addr} (h : SrcAt σ S) (k : Kp σ σ') : SrcAt σ' S := let ⟨a, b, e, r⟩ := h; ⟨a, b, k _ _ e, r⟩
theorem Kp.kept {S : Addr} {σ σ' : Store} (h : Kp σ σ') : Kept S σ σ' := fun x cl _ e => h x cl e
theorem Kept.none {S F : Addr} {σ σ' : Store} (h : Kept S σ σ') (hS : SrcAt σ' S) (hF : σ' F = none) : σ F = none := by
  cases e : σ F with
  | none => rfl
  | some cl =>
    by_cases z : F = S
    · obtain ⟨a, b, e2, _⟩ := hS
      rw [z, e2] at hF; cases hF
    · rw [h F cl z e] at hF; cases hF

/-! # Text WQD -/
section
set_option maxHeartbeats 1000000 in
theorem oper_step {d M Md B Bd N Nd K Kd Lo Ld : Nat} (hD : d = 0 ∨ ∃ d', d = d' + 1 ∧ DrawC d' Md Bd Nd Kd Ld) (l1 : Lo ≤ 10000) (l2 : Lo + 11 ≤ Ld) (m1 : 4 ≤ M) (m2 : Md + 1 ≤ M) (b1 : 22 ≤ B) (b2 : Bd + 19 ≤ B) (n1 : 72 ≤ N) (n2 : Nd + 34 ≤ N) (k1 : 13 ≤ K) (k2 : Kd + 7 ≤ K) (bs : Bd ≤ 2000) : OperC d M B N K Lo := fun c ρ σ Q X S x0 hS hx hn q => by
  refine call_def0 c_law_operand b_law_operand (by (first | lia | omega)) (ρ₀ := [("source", .loc S), ("text", .str x0), ("deep", .int (d : Nat))]) ⟨rfl, rfl⟩ fun L => ?_
  conv => arg 3; whnf
  repeat k_memK
  intro SL hSL
  have kSL : Kp σ (σ.set SL (.list [])) := Kp.set hSL
  have nSL : SL ≠ S := fun z => by obtain ⟨_, _, e, _⟩ := hS; rw [z, e] at hSL; cases hSL
  with_reducible refine S_cons ?_
  refine S_forRX (by rfl) ?_ (fun _ => rfl)
  with_reducible refine E_range ?_ ?_ ?_
  · rfl
  · rfl
  repeat k_memK
  refine E_fn rfl g__law_one rfl ?_
  repeat k_memK
  intro D hDn
  repeat k_memK
  have k1' : Kp σ ((σ.set SL (.list [])).set D (.list [.int 0, .int 0, .int 1, .int 2])) := fun a cl e => Kp.set hDn _ _ (kSL _ _ e)
  have nD : D ≠ S := fun z => by obtain ⟨_, _, e, _⟩ := hS.kept kSL; rw [z, e] at hDn; cases hDn
  have nDS : SL ≠ D := fun z => by rw [← z, Store.set_same] at hDn; cases hDn
  refine law_one_ok (as := [.int 0, .int 0, .int 1, .int 2]) (calleeN (by (first | lia | omega))) (by decide) (by decide) (hS.kept k1') Store.set_same nD fun a ha σ1 hS1 ks1 => ?_
  have hn2 : ∃ n : Nat, n ≤ 2 ∧ a = .int (n : Nat) := by
    simp only [List.mem_cons, List.not_mem_nil, or_false] at ha
    rcases ha with rfl | rfl | rfl | rfl
    · exact ⟨0, by decide, rfl⟩
    · exact ⟨0, by decide, rfl⟩
    · exact ⟨1, by decide, rfl⟩
    · exact ⟨2, by decide, rfl⟩
  obtain ⟨n, hn2, rfl⟩ := hn2
  repeat k_memK
  refine call_range fun b hb => ?_
  have kσ1 : Kept S σ (σ1.set b (.rng n)) := (k1'.kept.trans (Kept.of ks1)).trans (Kp.set hb).kept
  have sSL1 : (σ1.set b (.rng n)) SL = some (.list []) := Kp.set hb _ _ ((ks1 SL nSL).trans ((Store.set_ne nDS).trans Store.set_same))
  refine ⟨b, n, fun k ρ' σ' => ∃ ss, ss.length = k ∧ SignsAt x0.length ss ∧ σ' SL = some (.list (ss.map sgAV)) ∧ SrcAt σ' S ∧ Kept S σ σ' ∧ SubL ρ' (Lv [("source", .loc S), ("text", .str (x0 ++ cat ss)), ("deep", .int (d : Nat)), ("signs", .loc SL)]), rfl, by (first | lia | omega), Store.set_same, ⟨[], rfl, trivial, sSL1, hS1.new hb, kσ1, rfl, ?_, rfl, rfl, trivial⟩, fun k ρ' σ' hk hI => ?_, fun ρ' σ' hI => ?_⟩
  · show some (AV.str x0) = some (.str (x0 ++ cat []))
    rw [show x0 ++ cat [] = x0 from append_empty x0]
  · obtain ⟨ss, hl, hsg, sSL, hS', hk', hsub⟩ := hI
    refine ⟨_, hsub, ?_⟩
    have hcl := cat_len hsg
    repeat k_memK
    refine E_fn rfl g__law_one rfl ?_
    repeat k_memK
    intro D2 hD2
    repeat k_memK
    have nD2 : D2 ≠ S := fun z => by obtain ⟨_, _, e, _⟩ := hS'; rw [z, e] at hD2; cases hD2
    refine law_one_ok (as := SIGL.map .str) (calleeN (by (first | lia | omega))) (by decide) (by decide) (hS'.new hD2) Store.set_same nD2 fun a ha σ2 hS2 ks2 => ?_
    obtain ⟨s, hs, rfl⟩ := List.mem_map.mp ha
    have kk2 : Kept S σ σ2 := (hk'.trans (Kp.set hD2).kept).trans (Kept.of ks2)
    have sSL2 : σ2 SL = some (.list (ss.map sgAV)) := (ks2 SL nSL).trans (Kp.set hD2 _ _ sSL)
    repeat k_memK
    refine ⟨SL, _, rfl, sSL2, ?_⟩
    repeat k_memK
    have htl : (x0 ++ cat ss).length ≤ 10010 := by rw [len_append]; (first | lia | omega)
    refine call_lenS (by (first | lia | omega)) ?_
    repeat k_memK
    refine ⟨_, sSL2, by rw [List.length_map, sizeLine_eq]; (first | lia | omega), ?_⟩
    repeat k_memK
    have hs5 : s.length ≤ 5 := Nat.le_of_ble_eq_true (List.all_eq_true.mp (by kernel_rfl : SIGL.all (fun s => Nat.ble s.length 5) = true) s hs)
    refine bin_addS (by rw [sizeLine_eq]; (first | lia | omega)) ?_
    repeat k_memK
    refine S_nil ?_
    refine ⟨ss ++ [(s, x0.length + (cat ss).length)], by rw [List.length_append, hl]; rfl, signs_snoc hs hsg, ?_, ?_, ?_, rfl, ?_, rfl, rfl, trivial⟩
    · rw [Store.set_same, List.map_append, len_append]; rfl
    · obtain ⟨a, b, e, r⟩ := hS2
      exact ⟨a, b, (Store.set_ne (Ne.symm nSL)).trans e, r⟩
    · intro x cl nx e
      have := kk2 x cl nx e
      by_cases z : x = SL
      · rw [z] at e; rw [e] at hSL; cases hSL
      · exact (Store.set_ne z).trans this
    · show some (AV.str (x0 ++ cat ss ++ s)) = some (.str (x0 ++ cat (ss ++ [_])))
      rw [cat_snoc, str_assoc]
  · obtain ⟨ss, hl, hsg, sSL, hS', hk', hsub⟩ := hI
    refine ⟨_, hsub, ?_⟩
    have hssl : ss.length ≤ 2 := by (first | lia | omega)
    have hcl := cat_len hsg
    obtain ⟨m, em⟩ : ∃ m, m = x0.length + (cat ss).length := ⟨_, rfl⟩
    obtain ⟨xs, exs⟩ : ∃ xs, xs = x0 ++ cat ss := ⟨_, rfl⟩
    have hxl : xs.length = m := by rw [exs, len_append, em]
    rw [← exs]
    show JS _ _ _ _ _ _
    suffices hcore : ∀ σ2 y r0, SrcAt σ2 S → Kept S σ σ2 → σ2 SL = some (.list (ss.map sgAV)) → y.length + 17 ≤ B → y.length ≤ 2010 → UP m y r0 (N - 23) (K - 7) →
        JS (calleeFc c 621 L ["source", "text", "deep", "signs", "turn", "sign", "tree", "name", "spot", "told"] ["range", "_law_one", "len", "_law_take", "_law_drawn", "_law_behind", "_law_path"]) (Lv [("source", .loc S), ("text", .str (xs ++ y)), ("deep", .int (d : Nat)), ("signs", .loc SL), ("tree", optA r0)]) _ σ2 (Ret Q) X by
      suffices helse : ∀ σ2, SrcAt σ2 S → Kept S σ σ2 → σ2 SL = some (.list (ss.map sgAV)) →
          JS (calleeFc c 621 L ["source", "text", "deep", "signs", "turn", "sign", "tree", "name", "spot", "told"] ["range", "_law_one", "len", "_law_take", "_law_drawn", "_law_behind", "_law_path"]) (Lv [("source", .loc S), ("text", .str xs), ("deep", .int (d : Nat)), ("signs", .loc SL)]) _ σ2 _ X by
        repeat k_memK
        refine cmp_I (b := decide ((0 : Int) < (d : Nat))) rfl ?_
        rcases hD with rfl | ⟨d', rfl, hDr⟩
        · rw [if_neg (by decide), if_neg (by decide)]
          exact helse σ' hS' hk' sSL
        · rw [if_pos (decide_eq_true (by (first | lia | omega)))]
          repeat k_memK
          refine E_fn rfl g__law_take rfl ?_
          repeat k_memK
          refine law_take_ok (top := 5) (calleeN (by (first | lia | omega))) (by decide) (by decide) hS' fun d5 σ2 hd5 hS2 ks2 => ?_
          have kk2 : Kept S σ σ2 := hk'.trans (Kept.of ks2)
          have sSL2 : σ2 SL = some (.list (ss.map sgAV)) := (ks2 SL nSL).trans sSL
          repeat k_memK
          refine cmp_I (b := ((d5 : Nat) : Int) == 0) rfl ?_
          cases h5 : ((d5 : Nat) : Int) == 0 with
          | false =>
            rw [if_neg (by decide), if_neg (by decide)]
            exact helse σ2 hS2 kk2 sSL2
          | true =>
            rw [if_pos rfl]
            refine All_and_nil ?_
            rw [if_pos rfl]
            with_reducible refine S_cons ?_
            refine S_pair (by rfl) (by rfl) ?_ (by rfl) (by rfl)
            refine E_fn rfl g__law_drawn rfl ?_
            repeat k_memK
            refine bin_addS (by rw [sizeLine_eq, hxl]; show m + 1 ≤ _; (first | lia | omega)) ?_
            repeat k_memK
            refine bin_subI ?_
            rw [show (((d' + 1 : Nat) : Int) - 1) = ((d' : Nat) : Int) by (first | lia | omega)]
            repeat k_memK
            have hxp : (xs ++ "(").length = m + 1 := by rw [len_append, hxl]; rfl
            refine hDr _ _ σ2 _ X S (xs ++ "(") hS2 (by rw [hxp]; (first | lia | omega)) (calleeN (by (first | lia | omega))) fun F σ3 t r hS3 ks3 hF sF htB hdp => ?_
            rw [hxp] at hdp
            refine ⟨_, _, sF, ?_⟩
            repeat k_memK
            have htl : (xs ++ "(" ++ t).length = m + 1 + t.length := by rw [len_append, hxp]
            refine bin_addS (by rw [sizeLine_eq, htl]; show m + 1 + t.length + 1 ≤ _; (first | lia | omega)) ?_
            repeat k_memK
            refine S_nil ?_
            have e : xs ++ "(" ++ t ++ ")" = xs ++ ("(" ++ t ++ ")") := by rw [str_assoc, str_assoc, str_assoc]
            have hyl : ("(" ++ t ++ ")" : Str).length = t.length + 2 := by rw [len_append, len_append]; show 1 + t.length + 1 = _; (first | lia | omega)
            refine JT.sub (hcore σ3 ("(" ++ t ++ ")") r hS3 (kk2.trans ks3) (ks3 _ _ nSL sSL2) (by rw [hyl]; (first | lia | omega)) (by rw [hyl]; (first | lia | omega)) ((paren_piece hdp).up (by (first | lia | omega)) (by (first | lia | omega)))) ?_
            exact ⟨rfl, congrArg (fun z => some (AV.str z)) e, rfl, rfl, rfl, trivial⟩
      intro σ2 hS2 kk2 sSL2
      repeat k_memK
      refine E_fn rfl g__law_one rfl ?_
      repeat k_memK
      intro D3 hD3
      repeat k_memK
      have nD3 : D3 ≠ S := fun z => by obtain ⟨_, _, e, _⟩ := hS2; rw [z, e] at hD3; cases hD3
      refine law_one_ok (as := (["a", "b", "x"] : List Str).map .str) (calleeN (by (first | lia | omega))) (by decide) (by decide) (hS2.new hD3) Store.set_same nD3 fun a ha σ3 hS3 ks3 => ?_
      obtain ⟨nam, hnam, rfl⟩ := List.mem_map.mp ha
      have kk3 : Kept S σ σ3 := (kk2.trans (Kp.set hD3).kept).trans (Kept.of ks3)
      have sSL3 : σ3 SL = some (.list (ss.map sgAV)) := (ks3 SL nSL).trans (Kp.set hD3 _ _ sSL2)
      have hnl : nam.length = 1 := by
        have : ∀ y ∈ (["a", "b", "x"] : List Str), y.length = 1 := by decide
        exact this nam hnam
      repeat k_memK
      try with_reducible refine S_cons ?_
      refine S_pair (by rfl) (by rfl) ?_ (by rfl) (by rfl)
      refine E_fn rfl g__law_behind rfl ?_
      repeat k_memK
      refine bin_addS (by rw [sizeLine_eq, hxl]; (first | lia | omega)) ?_
      repeat k_memK
      refine E_fn rfl g__law_path rfl ?_
      repeat k_memK
      refine call_lenS (by rw [hxl]; (first | lia | omega)) ?_
      repeat k_memK
      refine law_path_ok (calleeN (by (first | lia | omega))) ?_
      repeat k_memK
      have hxn : (xs ++ nam).length = m + 1 := by rw [len_append, hxl, hnl]
      refine law_behind_ok (s := (xs.length : Nat)) (calleeN (by (first | lia | omega))) hS3 (by rw [hxn]; (first | lia | omega)) rfl fun w F σ4 hS4 ks4 hF sF => ?_
      refine ⟨_, _, sF, ?_⟩
      refine S_nil ?_
      have hwl : (nam ++ w.txt).length ≤ 5 := by
        rw [len_append, hnl]
        have : w.txt.length ≤ 4 := by cases w <;> decide
        (first | lia | omega)
      have hp := name_piece (n := m) w (by
        have : ∀ y ∈ (["a", "b", "x"] : List Str), y ∈ (["a", "b", "x", "c", "d", "e"] : List Str) := by decide
        exact this nam hnam)
      refine JT.sub (hcore σ4 (nam ++ w.txt) _ hS4 (kk3.trans ks4) (ks4 _ _ nSL sSL3) (by (first | lia | omega)) (by (first | lia | omega)) (hp.up (by (first | lia | omega)) (by (first | lia | omega)))) ?_
      refine ⟨rfl, ?_, rfl, rfl, ?_, trivial⟩
      · show some (AV.str (xs ++ nam ++ w.txt)) = some (AV.str (xs ++ (nam ++ w.txt)))
        rw [str_assoc]
      · show some (w.tree (xs ++ nam).length (pathT nam (xs.length : Nat))) = some (w.tree (m + 1) (pathT nam (m : Nat)))
        rw [hxn, hxl]
    intro σ2 y r0 hS2 kk2 sSL2 hyB hy2 hup
    have htr0 : ∀ {k : Nat} {t : AV}, (ss.reverse.take k).foldl wrap1 r0 = some t → t.spot.isSome = true := fun {k t} e => by
      have key : ∀ (l : List (Str × Nat)) (r : Option AV) {t : AV}, (∀ t, r = some t → t.spot.isSome = true) → l.foldl wrap1 r = some t → t.spot.isSome = true := by
        intro l
        induction l with
        | nil => intro r t h e; exact h t e
        | cons p l ih =>
          intro r t h e
          refine ih (wrap1 r p) (fun t' e' => ?_) e
          unfold wrap1 at e'
          obtain ⟨t0, _, rfl⟩ := Option.map_eq_some_iff.mp e'
          unfold signT
          split <;> rfl
      exact key _ _ (fun t e => (hup.tr t e).1) e
    with_reducible refine S_cons ?_
    refine S_forLX ?_ (fun it t A v s' h Q' E' q' => own_pair h Q' E' q') (fun _ => rfl)
    refine E_sl (fun _ _ => ⟨_, rfl⟩) ?_
    repeat k_memK
    refine E_neg (i := 1) ?_
    repeat k_memK
    refine ⟨rfl, _, rfl, SL, ss.map sgAV, (ss.map sgAV).reverse, rfl, sSL2, by rw [List.length_map, sizeLine_eq]; (first | lia | omega), by decide, fun h xs r => ?_, fun F hF => ?_⟩
    · rw [krv_pick]
      simpa using r.reverse
    have kkF : Kp σ2 (σ2.set F (.list (ss.map sgAV).reverse)) := Kp.set hF
    obtain ⟨σ3, eσ3⟩ : ∃ σ3, σ3 = σ2.set F (.list (ss.map sgAV).reverse) := ⟨_, rfl⟩
    rw [← eσ3] at kkF ⊢
    have sF3 : σ3 F = some (.list (ss.map sgAV).reverse) := by rw [eσ3]; exact Store.set_same
    refine ⟨F, (ss.map sgAV).reverse, fun k ρ' σ' => σ' = σ3 ∧ SubL ρ' (Lv [("source", .loc S), ("text", .str (xs ++ y)), ("deep", .int (d : Nat)), ("tree", optA ((ss.reverse.take k).foldl wrap1 r0))]), rfl, sF3, ⟨rfl, rfl, rfl, rfl, rfl, trivial⟩, fun k ρ' σ' h => by rw [h.1]; exact sF3, fun k a ρ' σ' ha hI => ?_, fun ρ' σ' hI => ?_⟩
    · obtain ⟨rfl, hsub⟩ := hI
      rw [← List.map_reverse, List.getElem?_map] at ha
      obtain ⟨p, hp, rfl⟩ := Option.map_eq_some_iff.mp ha
      have hps : p.1 ∈ SIGL := by
        have key : ∀ {n : Nat} {l : List (Str × Nat)}, SignsAt n l → ∀ p ∈ l, p.1 ∈ SIGL := by
          intro n l
          induction l generalizing n with
          | nil => intro _ p hp; cases hp
          | cons a l ih =>
            obtain ⟨s, q⟩ := a
            intro ⟨h1, _, h3⟩ p hp
            rcases List.mem_cons.mp hp with rfl | hp
            · exact h1
            · exact ih h3 p hp
        exact key hsg p (List.mem_reverse.mp (List.mem_of_getElem? hp))
      have hnext : (ss.reverse.take (k + 1)).foldl wrap1 r0 = wrap1 ((ss.reverse.take k).foldl wrap1 r0) p := by
        rw [List.take_add_one, hp, List.foldl_append]; rfl
      obtain ⟨rk, erk⟩ : ∃ rk, rk = (ss.reverse.take k).foldl wrap1 r0 := ⟨_, rfl⟩
      have hsk : ∀ t, rk = some t → t.spot.isSome = true := fun t e => htr0 (k := k) (by rw [← erk]; exact e)
      rw [← erk] at hsub hnext
      refine ⟨_, _, hsub, tgt_pair (by rfl) (by rfl) (rfl : Items _ (.tup [.str p.1, .int (p.2 : Nat)]) [.str p.1, .int (p.2 : Nat)]), ?_⟩
      show JS _ (Lv [("source", .loc S), ("text", .str (xs ++ y)), ("deep", .int (d : Nat)), ("tree", optA rk), ("sign", .str p.1), ("spot", .int (p.2 : Nat))]) _ _ _ _
      repeat k_memK
      refine cmp_isNotNone (optA_noval hsk) ?_
      rw [optA_isNone hsk]
      cases rk with
      | none =>
        rw [if_neg (by decide)]
        refine S_nil ?_
        refine S_nil ?_
        refine ⟨rfl, rfl, rfl, rfl, ?_, trivial⟩
        rw [hnext]; rfl
      | some t =>
        rw [if_pos (by rfl)]
        repeat k_memK
        have hps1 : 1 ≤ p.1.length := by
          have all : ∀ s ∈ SIGL, 1 ≤ s.length := fun s hs => Nat.le_of_ble_eq_true (List.all_eq_true.mp (by kernel_rfl : SIGL.all (fun s => Nat.ble 1 s.length) = true) s hs)
          exact all _ hps
        have hps5 : p.1.length ≤ 5 := Nat.le_of_ble_eq_true (List.all_eq_true.mp (by kernel_rfl : SIGL.all (fun s => Nat.ble s.length 5) = true) _ hps)
        refine sub_s (k := 0) (fun _ _ => ⟨_, rfl⟩) (by (first | lia | omega)) (by (first | lia | omega)) ?_
        repeat k_memK
        have hamp : (Txt.item p.1 ((0 : Nat) : Int) == "&") = (p.1 == "& " || p.1 == "&mut ") := by
          have all : SIGL.all (fun s => (Txt.item s ((0 : Nat) : Int) == "&") == (s == "& " || s == "&mut ")) = true := by kernel_rfl
          exact eq_of_beq (List.all_eq_true.mp all _ hps)
        rw [hamp]
        cases hb : (p.1 == "& " || p.1 == "&mut ") with
        | true =>
          rw [if_pos rfl]
          repeat k_memK
          refine S_nil ?_
          refine S_nil ?_
          refine ⟨rfl, rfl, rfl, rfl, ?_, trivial⟩
          rw [hnext]
          show _ = some (signT p.1 (p.2 : Nat) t)
          unfold signT
          rw [hb, if_pos rfl]; rfl
        | false =>
          rw [if_neg (by decide)]
          repeat k_memK
          refine S_nil ?_
          refine S_nil ?_
          refine ⟨rfl, rfl, rfl, rfl, ?_, trivial⟩
          rw [hnext]
          show _ = some (signT p.1 (p.2 : Nat) t)
          unfold signT
          rw [hb, if_neg (by decide)]; rfl
    obtain ⟨rfl, hsub⟩ := hI
    rw [List.length_reverse, List.length_map, List.take_of_length_le (by rw [List.length_reverse]; exact Nat.le_refl _)] at hsub
    refine ⟨_, hsub, ?_⟩
    show JS _ _ _ _ _ _
    have hsp := signs_piece hsg (by rw [← em]; exact hup)
    obtain ⟨r, er⟩ : ∃ r, r = ss.reverse.foldl wrap1 r0 := ⟨_, rfl⟩
    rw [← er] at hsub hsp ⊢
    have hs3 : SrcAt σ' S := hS2.kept kkF
    have kk3 : Kept S σ σ' := kk2.trans kkF.kept
    have etx : xs ++ y = x0 ++ (cat ss ++ y) := by rw [exs, str_assoc]
    have hyl : (cat ss ++ y).length = (cat ss).length + y.length := len_append _ _
    have hxy : (xs ++ y).length = m + y.length := by rw [len_append, hxl]
    have hsr : ∀ t, r = some t → t.spot.isSome = true := fun t e => (hsp.tr t e).1
    repeat k_memK
    refine E_fn rfl g__law_take rfl ?_
    repeat k_memK
    refine law_take_ok (top := 5) (calleeN (by (first | lia | omega))) (by decide) (by decide) hs3 fun d6 σ4 hd6 hS4 ks4 => ?_
    have kk4 : Kept S σ σ4 := kk3.trans (Kept.of ks4)
    repeat k_memK
    refine cmp_I (b := ((d6 : Nat) : Int) == 0) rfl ?_
    cases h6 : ((d6 : Nat) : Int) == 0 with
    | false =>
      rw [if_neg (by decide)]
      refine S_nil ?_
      show JS _ _ _ _ _ _
      repeat k_memK
      intro F2 hF2
      refine retq (q F2 _ (cat ss ++ y) r (hS4.new hF2) (kk4.trans (Kp.set hF2).kept) (kk4.none hS4 hF2) ?_ (by rw [hyl]; (first | lia | omega)) ((cast_none hsp).up (by (first | lia | omega)) (by (first | lia | omega))))
      rw [Store.set_same, etx]
    | true =>
      rw [if_pos rfl]
      repeat k_memK
      refine call_lenS (by rw [hxy]; (first | lia | omega)) ?_
      repeat k_memK
      refine bin_addI ?_
      repeat k_memK
      try with_reducible refine S_cons ?_
      refine S_pairW (by rfl) (by rfl) ?_ (by rfl) (by rfl)
      repeat k_memK
      refine bin_addS (by rw [sizeLine_eq, hxy]; show m + y.length + 7 ≤ _; (first | lia | omega)) ?_
      repeat k_memK
      refine cmp_isNone (optA_noval hsr) ?_
      rw [optA_isNone hsr]
      suffices hfin : ∀ (tr : AV), tr = optA (r.map (castT ((x0.length + (cat ss ++ y).length : Nat) : Int))) →
          JS (calleeFc c 621 L ["source", "text", "deep", "signs", "turn", "sign", "tree", "name", "spot", "told"] ["range", "_law_one", "len", "_law_take", "_law_drawn", "_law_behind", "_law_path"]) (Lv [("text", .str (xs ++ y ++ " as (T)")), ("tree", tr)]) _ σ4 (Ret Q) X by
        have e5 : ((xs ++ y).length : Int) = ((x0.length + (cat ss ++ y).length : Nat) : Int) := by rw [hxy, hyl, em]; (first | lia | omega)
        cases r with
        | none =>
          rw [if_pos (by rfl)]
          repeat k_memK
          refine ⟨_, _, rfl, ?_⟩
          refine S_nil ?_
          exact JT.sub (hfin .none rfl) ⟨rfl, rfl, trivial⟩
        | some t =>
          rw [show (some t).isNone = false from rfl, if_neg (by decide)]
          repeat k_memK
          obtain ⟨sp, es⟩ := Option.isSome_iff_exists.mp (hsr t rfl)
          refine spot_sub (fun _ _ => ⟨_, rfl⟩) es ?_
          repeat k_memK
          refine ⟨_, _, rfl, ?_⟩
          refine S_nil ?_
          refine JT.sub (hfin _ ?_) ⟨rfl, rfl, trivial⟩
          show _ = castT _ t
          unfold castT pathT
          rw [← e5, show spotD t = sp by unfold spotD; rw [es]; rfl]
          rfl
      intro tr etr
      subst etr
      repeat k_memK
      intro F2 hF2
      refine retq (q F2 _ (cat ss ++ y ++ " as (T)") _ (hS4.new hF2) (kk4.trans (Kp.set hF2).kept) (kk4.none hS4 hF2) ?_ ?_ ((cast_some hsp).up (by (first | lia | omega)) (by (first | lia | omega))))
      · rw [Store.set_same, etx, str_assoc]
      · rw [len_append, hyl]; show _ + 7 ≤ B; (first | lia | omega)
end

/-! # Text WQE -/
theorem trees_dat {K : Nat} : ∀ {trees : List (Option AV)}, (∀ t, some t ∈ trees → TreeOK K t) → ∃ db, AV.dats (trees.map optA) = some db ∧ PyData.canLayAll0 db = true ∧ (db.any fun y => PyData.eqv y PyData.none) = trees.any (fun r => r.isNone)
  | [], _ => ⟨[], rfl, by simp [PyData.canLayAll0], rfl⟩
  | none :: l, h => by
    obtain ⟨db, e1, e2, e3⟩ := trees_dat (trees := l) fun t ht => h t (.tail _ ht)
    refine ⟨PyData.none :: db, ?_, by simp [PyData.canLayAll0, PyData.canLay0, e2], ?_⟩
    · rw [List.map_cons]; unfold AV.dats
      rw [e1]; rfl
    · rw [List.any_cons, List.any_cons, e3]
      simp [PyData.eqv]
  | some t :: l, h => by
    obtain ⟨db, e1, e2, e3⟩ := trees_dat (trees := l) fun t ht => h t (.tail _ ht)
    obtain ⟨hs, d, d1, d2, d3⟩ := h t (.head _)
    have htup : ∃ ds, d = .tuple ds := by
      cases t with
      | tup as =>
        unfold AV.dat at d1
        obtain ⟨ds, _, rfl⟩ := Option.map_eq_some_iff.mp d1
        exact ⟨ds, rfl⟩
      | _ => cases hs
    obtain ⟨ds, rfl⟩ := htup
    refine ⟨.tuple ds :: db, ?_, by simp [PyData.canLayAll0, d2, e2], ?_⟩
    · rw [List.map_cons]; unfold AV.dats
      show (match t.dat, AV.dats (l.map optA) with | some d, some ds => some (d :: ds) | _, _ => Option.none) = _
      rw [d1, e1]
    · rw [List.any_cons, List.any_cons, e3]
      simp [PyData.eqv]
theorem lvd_ops {p : Str × AV} (h : p ∈ LVD) : p.1 ∈ opsS := by
  have : ∀ x ∈ LVD.map (·.1), x ∈ opsS := by decide
  exact this _ (List.mem_map_of_mem h)
theorem opsS_len {s : Str} (h : s ∈ opsS) : s.length ≤ 2 := Nat.le_of_ble_eq_true (List.all_eq_true.mp (by kernel_rfl : opsS.all (fun s => Nat.ble s.length 2) = true) s h)
section
theorem drawn_step {d M Mo B Bo N No K Ko Ld Lo : Nat} (hO : OperC d Mo Bo No Ko Lo) (m1 : 10 ≤ M) (m2 : Mo + 1 ≤ M) (b1 : 5 * Bo + 16 ≤ B) (b2 : B ≤ 2000) (n1 : No + 28 ≤ N) (k1 : Ko + 4 ≤ K) (l1 : Ld ≤ 10000) (l2 : Ld + B ≤ Lo) : DrawC d M B N K Ld := fun c ρ σ Q X S x0 hS hx hn q => by
  refine call_def0 c_law_drawn b_law_drawn (by (first | lia | omega)) (ρ₀ := [("source", .loc S), ("text", .str x0), ("deep", .int (d : Nat))]) ⟨rfl, rfl⟩ fun L => ?_
  conv => arg 3; whnf
  with_reducible refine S_cons ?_
  refine S_pair (by rfl) (by rfl) ?_ (by rfl) (by rfl)
  refine E_fn rfl g__law_operand rfl ?_
  repeat k_memK
  refine hO _ _ σ _ X S x0 hS (by (first | lia | omega)) (calleeN (by (first | lia | omega))) fun F0 σ1 y0 r0 hS1 ks1 hF0 sF0 hy0 hp0 => ?_
  refine ⟨_, _, sF0, ?_⟩
  show JS _ _ _ _ _ _
  with_reducible refine S_cons ?_
  refine S_pairW (by rfl) (by rfl) ?_ (by rfl) (by rfl)
  repeat k_memK
  intro TL hTL
  repeat k_memK
  intro OL hOL
  repeat k_memK
  refine ⟨_, _, rfl, ?_⟩
  have nTO : OL ≠ TL := fun z => by rw [z, Store.set_same] at hOL; cases hOL
  have nTS : TL ≠ S := fun z => by obtain ⟨_, _, e, _⟩ := hS1; rw [z, e] at hTL; cases hTL
  have k2 : Kp σ1 ((σ1.set TL (.list [optA r0])).set OL (.list [])) := fun a cl e => Kp.set hOL _ _ (Kp.set hTL _ _ e)
  have nOS : OL ≠ S := fun z => by obtain ⟨_, _, e, _⟩ := hS1.kept (Kp.set (cl := .list [optA r0]) hTL); rw [z, e] at hOL; cases hOL
  have hTσ : σ TL = none := ks1.none hS1 hTL
  have hOσ : σ OL = none := by
    have : σ1 OL = none := by rw [Store.set_ne nTO] at hOL; exact hOL
    exact ks1.none hS1 this
  have sT2 : ((σ1.set TL (.list [optA r0])).set OL (.list [])) TL = some (.list [optA r0]) := Kp.set hOL _ _ Store.set_same
  have sO2 : ((σ1.set TL (.list [optA r0])).set OL (.list [])) OL = some (.list []) := Store.set_same
  obtain ⟨σ2, eσ2⟩ : ∃ σ2, σ2 = ((σ1.set TL (.list [optA r0])).set OL (.list [])) := ⟨_, rfl⟩
  rw [← eσ2] at k2 sT2 sO2 ⊢
  have hS2 := hS1.kept k2
  have kk2 : Kept S σ σ2 := ks1.trans k2.kept
  show JS _ _ _ _ _ _
  with_reducible refine S_cons ?_
  refine S_forRX (by rfl) ?_ (fun _ => rfl)
  with_reducible refine E_range ?_ ?_ ?_
  · rfl
  · rfl
  repeat k_memK
  refine E_fn rfl g__law_take rfl ?_
  repeat k_memK
  refine law_take_ok (top := 5) (calleeN (by (first | lia | omega))) (by decide) (by decide) hS2 fun n σ3 hn5 hS3 ks3 => ?_
  repeat k_memK
  refine call_range fun b hb => ?_
  have kb : Kp σ3 (σ3.set b (.rng n)) := Kp.set hb
  refine ⟨b, n, fun k ρ' σ' => ∃ x trees ops, ops.length = k ∧ Row x0.length x trees ops No Ko ∧ (∀ o ∈ ops, o ∈ opsS) ∧ x.length ≤ Bo + k * (Bo + 4) ∧ σ' TL = some (.list (trees.map optA)) ∧ σ' OL = some (.list (ops.map .str)) ∧ SrcAt σ' S ∧ Kept S σ σ' ∧
    SubL ρ' (Lv [("source", .loc S), ("text", .str (x0 ++ x)), ("deep", .int (d : Nat)), ("trees", .loc TL), ("ops", .loc OL)]), rfl, by (first | lia | omega), Store.set_same,
    ⟨y0, [r0], [], rfl, row_one hp0, (fun _ h => nomatch h), by (first | lia | omega), kb _ _ ((ks3 _ nTS).trans sT2), kb _ _ ((ks3 _ nOS).trans sO2), hS3.kept kb, (kk2.trans (Kept.of ks3)).trans kb.kept, rfl, rfl, rfl, rfl, rfl, trivial⟩, fun k ρ' σ' hk hI => ?_, fun ρ' σ' hI => ?_⟩
  · obtain ⟨x, trees, ops, hl, hrow, hops, hxl, sT, sO, hS', kk, hsub⟩ := hI
    refine ⟨_, hsub, ?_⟩
    have hk4 : k ≤ 3 := by (first | lia | omega)
    have hmul : k * (Bo + 4) ≤ 3 * (Bo + 4) := Nat.mul_le_mul_right _ hk4
    have hmul2 : (k + 1) * (Bo + 4) = k * (Bo + 4) + (Bo + 4) := Nat.succ_mul _ _
    have htl : trees.length = k + 1 := by
      obtain ⟨o, its, c0, cr, _, _, _, _, _, _, et, eo⟩ := hrow.ex
      rw [et, List.length_cons, List.length_map, ← hl, eo, List.length_map]
    repeat k_memK
    refine ⟨OL, _, rfl, sO, ?_⟩
    refine E_fn rfl g__law_one rfl ?_
    repeat k_memK
    refine E_call0 (f := 600) (E_gf (by rfl) g__law_levels ⟨rfl, ?_⟩) (by kernel_rfl)
    refine levels_ok (calleeN (by (first | lia | omega))) fun DD σ4 k4 n4 s4 => ?_
    repeat k_memK
    refine call_listD s4 (by decide) fun MM hMM => ?_
    repeat k_memK
    have nMS : MM ≠ S := fun z => by obtain ⟨_, _, e, _⟩ := hS'.kept k4; rw [z, e] at hMM; cases hMM
    refine law_one_ok (as := LVD.map fun p => .str p.1) (calleeN (by (first | lia | omega))) (by decide) (by decide) ((hS'.kept k4).new hMM) Store.set_same nMS fun a ha σ5 hS5 ks5 => ?_
    obtain ⟨p, hp, rfl⟩ := List.mem_map.mp ha
    have hop := lvd_ops hp
    obtain ⟨op, eop⟩ : ∃ op, op = p.1 := ⟨_, rfl⟩
    rw [← eop] at hop ⊢
    have k4 : Kp σ' σ4 := k4
    have k5 : Kept S σ' σ5 := (k4.kept.trans (Kp.set hMM).kept).trans (Kept.of ks5)
    have sT5 := k5 _ _ nTS sT
    have sO5 := k5 _ _ nOS sO
    have hol := opsS_len hop
    refine ⟨_, sO5, by rw [List.length_map, sizeLine_eq]; (first | lia | omega), ?_⟩
    repeat k_memK
    obtain ⟨σ6, eσ6⟩ : ∃ σ6, σ6 = σ5.set OL (.list (ops.map .str ++ [.str op])) := ⟨_, rfl⟩
    rw [← eσ6]
    have sO6 : σ6 OL = some (.list ((ops ++ [op]).map .str)) := by rw [eσ6, Store.set_same, List.map_append]; rfl
    have sT6 : σ6 TL = some (.list (trees.map optA)) := by rw [eσ6, Store.set_ne (Ne.symm nTO)]; exact sT5
    have hS6 : SrcAt σ6 S := by
      obtain ⟨a, b, e, r⟩ := hS5
      exact ⟨a, b, by rw [eσ6, Store.set_ne (Ne.symm nOS)]; exact e, r⟩
    have kk6 : Kept S σ σ6 := fun a cl na e => by
      have := k5 a cl na (kk a cl na e)
      by_cases z : a = OL
      · rw [z, hOσ] at e; cases e
      · rw [eσ6, Store.set_ne z]; exact this
    clear eσ6
    try with_reducible refine S_cons ?_
    refine S_pair (by rfl) (by rfl) ?_ (by rfl) (by rfl)
    refine E_fn rfl g__law_operand rfl ?_
    repeat k_memK
    have l0 : (x0 ++ x).length = x0.length + x.length := len_append _ _
    have ll1 : (x0 ++ x ++ " ").length = x0.length + x.length + 1 := by rw [len_append, l0]; rfl
    have ll2 : (x0 ++ x ++ " " ++ op).length = x0.length + x.length + 1 + op.length := by rw [len_append, ll1]
    have ll3 : (x0 ++ x ++ " " ++ op ++ " ").length = x0.length + x.length + 1 + op.length + 1 := by rw [len_append, ll2]; rfl
    refine bin_addS (by rw [sizeLine_eq, l0]; show _ + 1 ≤ _; (first | lia | omega)) ?_
    repeat k_memK
    refine E_neg (i := 1) ?_
    repeat k_memK
    refine ⟨rfl, ?_⟩
    refine sub_listN (fun _ _ => ⟨_, rfl⟩) sO6 (by decide) (by rw [List.length_map, List.length_append]; simp; (first | lia | omega)) (by decide) (b := .str op) ?_ ?_
    · rw [List.length_map, List.length_append, hl, show ((-1 : Int) + ((k + [op].length : Nat) : Int)).toNat = k by simp; (first | lia | omega), List.getElem?_map, List.getElem?_append_right (by (first | lia | omega)), hl]
      simp
    refine bin_addS (by rw [sizeLine_eq, ll1]; (first | lia | omega)) ?_
    repeat k_memK
    refine bin_addS (by rw [sizeLine_eq, ll2]; show _ + 1 ≤ _; (first | lia | omega)) ?_
    repeat k_memK
    refine hO _ _ σ6 _ X S (x0 ++ x ++ " " ++ op ++ " ") hS6 (by rw [ll3]; (first | lia | omega)) (calleeN (by (first | lia | omega))) fun F7 σ7 y r hS7 ks7 hF7 sF7 hy hp7 => ?_
    have ea : x0 ++ x ++ " " ++ op ++ " " = x0 ++ (x ++ " " ++ op ++ " ") := by simp only [str_assoc]
    rw [ea, len_append] at hp7
    have hrow' := row_more hrow hop hp7
    refine ⟨_, _, sF7, ?_⟩
    have sT7 := ks7 _ _ nTS sT6
    have sO7 := ks7 _ _ nOS sO6
    have kk7 := kk6.trans ks7
    show JS _ _ _ _ _ _
    repeat k_memK
    refine ⟨TL, _, rfl, sT7, ?_⟩
    repeat k_memK
    refine ⟨_, sT7, by rw [List.length_map, sizeLine_eq]; (first | lia | omega), ?_⟩
    refine S_nil ?_
    refine ⟨x ++ " " ++ op ++ " " ++ y, trees ++ [r], ops ++ [op], by rw [List.length_append, hl]; rfl, hrow', fun o ho => ?_, ?_, ?_, ?_, ?_, ?_, rfl, ?_, rfl, rfl, rfl, trivial⟩
    · rcases List.mem_append.mp ho with ho | ho
      · exact hops o ho
      · rw [List.mem_singleton.mp ho]; exact hop
    · have : (x ++ " " ++ op ++ " " ++ y).length = x.length + 1 + op.length + 1 + y.length := by
        rw [len_append, len_append, len_append, len_append]; rfl
      (first | lia | omega)
    · rw [Store.set_same, List.map_append]; rfl
    · exact (Store.set_ne nTO).trans sO7
    · obtain ⟨a, b, e, r⟩ := hS7
      exact ⟨a, b, (Store.set_ne (Ne.symm nTS)).trans e, r⟩
    · intro a cl na e
      by_cases z : a = TL
      · rw [z, hTσ] at e; cases e
      · exact (Store.set_ne z).trans (kk7 a cl na e)
    · show some (AV.str (x0 ++ x ++ " " ++ op ++ " " ++ y)) = some (AV.str (x0 ++ (x ++ " " ++ op ++ " " ++ y)))
      simp only [str_assoc]
  · obtain ⟨x, trees, ops, hl, hrow, hops, hxl, sT, sO, hS', kk, hsub⟩ := hI
    refine ⟨_, hsub, ?_⟩
    show JS _ _ _ _ _ _
    have hmul : n * (Bo + 4) ≤ 4 * (Bo + 4) := Nat.mul_le_mul_right _ (by (first | lia | omega))
    have htl : trees.length = ops.length + 1 := by
      obtain ⟨o, its, c0, cr, _, _, _, _, _, _, et, eo⟩ := hrow.ex
      rw [et, List.length_cons, List.length_map, eo, List.length_map]
    have hdp := (row_done hrow hops).up (N' := N) (K' := K) (by (first | lia | omega)) (by (first | lia | omega))
    repeat k_memK
    obtain ⟨db, d1, d2, d3⟩ := trees_dat hrow.tr
    refine cmp_inL (da := PyData.none) sT rfl d1 (by simp [PyData.canLay0]) d2 (by simp [PyData.depth]) ?_
    rw [d3]
    cases hany : trees.any (fun r => r.isNone) with
    | true =>
      rw [if_pos rfl]
      repeat k_memK
      intro F2 hF2
      have e : rowR trees ops = none := by unfold rowR; rw [hany, if_pos rfl]
      refine retq (q F2 _ x (rowR trees ops) (hS'.new hF2) (kk.trans (Kp.set hF2).kept) (kk.none hS' hF2) ?_ (by (first | lia | omega)) hdp)
      rw [Store.set_same, e]; rfl
    | false =>
      rw [if_neg (by decide)]
      refine E_fn rfl g__law_parted rfl ?_
      repeat k_memK
      have hall : ∀ r ∈ trees, r.isSome = true := fun r hr => by
        cases r with
        | none =>
          have : trees.any (fun r => r.isNone) = true := List.any_eq_true.mpr ⟨none, hr, rfl⟩
          rw [hany] at this; cases this
        | some t => rfl
      have hmap : trees.map optA = trees.map (fun r => r.getD .none) := List.map_congr_left fun r hr => by
        cases r with
        | none => rfl
        | some t => rfl
      refine parted_all (ops.length + 1) (trees.map optA) ops (Nat.lt_succ_self _) (by (first | lia | omega)) (by rw [List.length_map]; exact htl) (fun t ht => ?_) hops _ _ σ' _ X TL OL sT sO (calleeN (by (first | lia | omega))) fun σ8 k8 => ?_
      · obtain ⟨r, hr, rfl⟩ := List.mem_map.mp ht
        obtain ⟨t0, e0⟩ := Option.isSome_iff_exists.mp (hall r hr)
        subst e0
        exact (hrow.tr t0 hr).1
      · have e : parted (ops.length + 1) (trees.map optA) ops = rowR trees ops := by unfold rowR; rw [hany, if_neg (by decide), hmap]
        rw [e]
        repeat k_memK
        intro F2 hF2
        refine retq (q F2 _ x (rowR trees ops) ((hS'.kept k8).new hF2) ((kk.trans k8.kept).trans (Kp.set hF2).kept) ((kk.trans k8.kept).none (hS'.kept k8) hF2) ?_ (by (first | lia | omega)) hdp)
        rw [Store.set_same]
end
theorem oper0 : OperC 0 4 22 72 13 3000 := oper_step (Md := 0) (Bd := 0) (Nd := 0) (Kd := 0) (Ld := 4000) (.inl rfl) (by decide) (by decide) (by decide) (by decide) (by decide) (by decide) (by decide) (by decide) (by decide) (by decide) (by decide)
theorem drawn0 : DrawC 0 10 126 100 17 2800 := drawn_step oper0 (by decide) (by decide) (by decide) (by decide) (by decide) (by decide) (by decide) (by decide)
theorem oper1 : OperC 1 11 145 134 24 2700 := oper_step (.inr ⟨0, rfl, drawn0⟩) (by decide) (by decide) (by decide) (by decide) (by decide) (by decide) (by decide) (by decide) (by decide) (by decide) (by decide)
theorem drawn1 : DrawC 1 12 741 162 28 100 := drawn_step oper1 (by decide) (by decide) (by decide) (by decide) (by decide) (by decide) (by decide) (by decide)

/-! # Text WQF -/
section
variable {c : Fc} {ρ : List (Str × AV)} {σ : Store} {X : Store → Prop}
theorem S_tryOk {body : List Stmt} {h₀ : ExceptHandler} {hs : List ExceptHandler} {pos : Pos} {Q : Fl → List (Str × AV) → Store → Prop} (h : JS c ρ body σ Q noX) : J1 c ρ (.Try body (h₀ :: hs) [] [] pos) σ Q X := fun A outer s F =>
  wpAny_Try_except (JT.go h F (fun f fl ρ₁ s₁ σ₁ G F₁ r q => by
    cases f <;> cases fl <;> first | exact r.elim | skip
    · exact wpAny_execs_nil ⟨.next, ρ₁, σ₁, G, F₁, trivial, q⟩
    · exact ⟨_, ρ₁, σ₁, G, F₁, r, q⟩
    · exact ⟨_, ρ₁, σ₁, G, F₁, r, q⟩
    · exact ⟨_, ρ₁, σ₁, G, F₁, r, q⟩) fun _ _ ⟨_, _, f⟩ => f.elim)
/-- the words of a piece that is a whole text -/
theorem piece_words {x : Str} {r : Option AV} {N K : Nat} (h : DP 0 x r N K) : ∃ T, Blank x 0 0 ∧ Lx x 0 T ∧ T.length ≤ x.length ∧ Par 364 [] T r N stops3 := by
  obtain ⟨⟨T, c0, cr, hseg, hx, hfs, _, hpar⟩, _⟩ := h
  have hl := hseg.1
  rw [len_cps] at hl
  have lx := hseg.2 x [] [] (x.length) [] (by simp) rfl (by rfl) (by rw [len_cps, Nat.zero_add]; exact blank_end_at) .nil
  rw [List.append_nil] at lx
  exact ⟨T, blank_here (pre := []) hx (FS_nb hfs) (FS_ns hfs), lx, hl, hpar⟩
theorem at_whole {W : Ws} {T : List Tk} {e : Tk} (h : W.ts = T ++ [e]) : At W 0 T ∧ W.tok (0 + T.length) = e ∧ T.length ≤ W.ts.length := by
  refine ⟨⟨[e], by rw [List.drop_zero, h], by simp⟩, ?_, by rw [h]; simp⟩
  unfold Ws.tok
  have : min (0 + T.length) (W.ts.length - 1) = T.length := by rw [h]; simp
  rw [this, h, List.getD_eq_getElem?_getD, List.getElem?_append_right (Nat.le_refl _)]
  simp
theorem told_ok {x : Str} {t : AV} {N K : Nat} {Q : AV → Store → Prop} (h : DP 0 x (some t) N K) (hx : x.length ≤ 2 ^ 20) (hn : N + 10 ≤ c.n) (q : ∀ σ', Kp σ σ' → Q t σ') : CallJ c ρ (.ref 640) [.str x] σ Q X := by
  obtain ⟨T, b0, lx, hTl, hpar⟩ := piece_words h
  refine call_def0 c_law_told b_law_told (by (first | lia | omega)) (ρ₀ := [("text", .str x)]) ⟨rfl, rfl⟩ fun L => ?_
  conv => arg 3; whnf
  repeat k_memK
  refine E_fn rfl g_read_words rfl ?_
  repeat k_memK
  refine read_words_ok (calleeN (by (first | lia | omega))) (by (first | lia | omega)) b0 lx (by (first | lia | omega)) fun W σ1 hW w1 nx k1 => ?_
  obtain ⟨a0, te, hle⟩ := at_whole hW
  show JS _ _ _ _ _ _
  with_reducible refine S_cons ?_
  refine S_tryOk ?_
  repeat k_memK
  refine E_fn rfl g_read_expr rfl ?_
  repeat k_memK
  refine hpar _ _ σ1 _ noX W 0 w1 a0 (by rw [te]; rfl) (calleeN (by (first | lia | omega))) (fun t' et σ2 w2 ex => ?_) fun e => by cases e
  cases et
  have k2 : Kp σ σ2 := fun a cl e => ex a cl (fun z => by rw [z, nx] at e; cases e) (k1 a cl e)
  refine S_nil ?_
  show JS _ _ _ _ _ _
  repeat k_memK
  refine ⟨W, _, rfl, w2, peek0_ok w2 (by (first | lia | omega)) (calleeN (by (first | lia | omega))) ?_⟩
  rw [te]
  repeat k_memK
  rw [if_pos (by rfl)]
  repeat k_memK
  exact retq (q σ2 k2)
end
/-! # A fault is caught -/
noncomputable abbrev Rest (s s' : Shared) : Prop := s'.gens = s.gens ∧ s'.drawn = s.drawn ∧ s'.os = s.os
noncomputable def listsOf (σ : Store) : Store := fun a => match σ a with
  | some (.list as) => some (.list as)
  | _ => none
theorem listsOf_some {σ : Store} {a : Addr} {c : Cell} (h : listsOf σ a = some c) : ∃ as, c = .list as ∧ σ a = some (.list as) := by
  unfold listsOf at h
  split at h
  · rename_i as e; cases h; exact ⟨as, rfl, e⟩
  · cases h
theorem listsOf_none {σ : Store} {a : Addr} (h : σ a = none) : listsOf σ a = none := by
  unfold listsOf; rw [h]
theorem listsOf_list {σ : Store} {a : Addr} {as : List AV} (h : σ a = some (.list as)) : listsOf σ a = some (.list as) := by
  unfold listsOf; rw [h]
theorem bad_frame {c : Fc} {ρ : List (Str × AV)} {A : Around} {outer : List Env} {s s' : Shared} {σ σ' : Store} {x : Value} {stack : List Env} {l : Option Addr} (F : InFr c ρ [] A outer s σ) (b : Bad c.w c.H none s σ s' σ' x stack l) (st : c.H.StaysIn s'.heap) (fr : s'.heap.FunFrames c.H (c.env :: outer)) :
    InFr c ρ [] A outer s' (listsOf σ') where
  base := F.base
  handled := F.handled
  depth := F.depth
  units := F.units
  frames := F.frames
  kind := F.kind
  frame := F.frame
  globals := F.globals
  builtins := F.builtins
  stack := fr
  apart := fun e he L hf => by
    obtain ⟨⟨o, eo⟩, _⟩ := F.frameThere he hf
    exact listsOf_none (b.old L o eo (F.apart e he L hf))
  ns := by
    obtain ⟨m, ⟨o, es, ep, a1, a2, a3, a4⟩, hr⟩ := F.ns.is
    obtain ⟨sl, e⟩ := b.evo _ o a1 F.sep (fun q => nomatch q) (fun vs q => by rw [a2] at q; cases q)
    refine ⟨m, ⟨_, es, ep, e, a2, a3, a4⟩, fun y av ey => ?_⟩
    obtain ⟨v, e1, e2⟩ := hr y av ey
    exact ⟨v, e1, e2.slots (fun a o ea t => b.evo a o ea (F.ok.tuple ea t) (fun q => nomatch q) fun vs q => by obtain ⟨_, _, _, d⟩ := t; rw [d] at q; cases q) av⟩
  known := F.known
  locs := F.locs
  glos := F.glos
  ok := ⟨st, fun a cl e => by
    obtain ⟨as, rfl, e'⟩ := listsOf_some e
    exact b.lists a as e', fun a C d es e => by obtain ⟨as, z, _⟩ := listsOf_some e; cases z⟩
  pend := fun p hp => nomatch hp
/-- a call whose faults were caught -/
noncomputable def CallW (c : Fc) (ρ : List (Str × AV)) (f : Value) (as : List AV) (σ : Store) (Q : AV → Store → Prop) : Prop :=
  ∀ A outer s vals, InFr c ρ [] A outer s σ → VRels s.heap vals as → wpAny (model pw c.w) A (call f vals) (fun v s' => ∃ b σ', Rest s s' ∧ InFr c ρ [] A outer s' σ' ∧ VRel s'.heap v b ∧ Q b σ') (fun _ _ => False) s
theorem CallJ.toW {c : Fc} {ρ : List (Str × AV)} {f : Value} {as : List AV} {σ : Store} {Q : AV → Store → Prop} (h : CallJ c ρ f as σ Q noX) : CallW c ρ f as σ Q := fun A outer s vals F rs =>
  wpAny_mono (h A outer s vals F rs) (fun v s' ⟨b, σ', G, r, q⟩ => ⟨b, σ', G.rest, F.stepL G, r, q⟩) fun _ _ ⟨_, _, f⟩ => f
theorem fault_match (P : Params) : exmOne (KO P) (.ref 57) (.ref 57) = some true := by kernel_rfl
theorem told_none {c : Fc} {ρ : List (Str × AV)} {σ : Store} {x : Str} {N K : Nat} {Q : AV → Store → Prop} (h : DP 0 x none N K) (hx : x.length ≤ 2 ^ 20) (hn : N + 10 ≤ c.n) (q : ∀ σ', (∀ a as, σ a = some (.list as) → σ' a = some (.list as)) → Q .none σ') : CallW c ρ (.ref 640) [.str x] σ Q := fun A outer s vals F rs => by
  obtain ⟨T, b0, lx, hTl, hpar⟩ := piece_words h
  refine wpAny_call (call_raw c_law_told b_law_told (by (first | lia | omega)) rfl F rs fun s0 hk rest0 F0 => ?_)
  obtain ⟨L, eL⟩ : ∃ L, L = s.heap.objs.size := ⟨_, rfl⟩
  rw [← eL] at F0 ⊢
  have apart : ∀ b o, s.heap.get? b = some o → (some L : Option Addr) ≠ some b := fun b o e q => by
    cases q; rw [eL] at e; exact absurd (Heap.lt_size e) (Nat.lt_irrefl _)
  have F0 : InFr (calleeFc c 640 L ["text", "words", "found"] ["read_words", "read_expr", "GrammarFault"]) [("text", .str x)] [] (A.deeper (callEnv (fdOf 640) L 640)) (c.env :: outer) s0 σ := F0
  conv in (bodyOf 640) => whnf
  refine wpAny_execs_cons ?_
  refine JT.go (c := calleeFc c 640 L ["text", "words", "found"] ["read_words", "read_expr", "GrammarFault"]) (Q := fun fl ρ1 σ1 => fl = .next ∧ ∃ W, W.ts = T ++ [Tk.mk "end" "" x.length] ∧ WAt σ1 W 0 ∧ σ W.x = none ∧ (∀ a cl, σ a = some cl → σ1 a = some cl) ∧ SubL ρ1 [("text", .str x), ("words", .loc W.x)]) (X := noX) ?_ F0 (fun f fl ρ1 s1 σ1 G1 F1 r ⟨e1, W, hW, w1, nx, k1, hs1⟩ => ?_) (fun _ _ ⟨_, _, f⟩ => f)
  · show J1 _ _ _ _ _ _
    with_reducible refine S_assign ?_ ?_ ?_
    · rfl
    rotate_left
    · rfl
    refine E_fn rfl g_read_words rfl ?_
    repeat k_memK
    refine read_words_ok (calleeN (by (first | lia | omega))) (by (first | lia | omega)) b0 lx (by (first | lia | omega)) fun W σ1 hW w1 nx k1 => ?_
    exact ⟨rfl, W, hW, w1, nx, k1, rfl, rfl, trivial⟩
  subst e1
  cases f <;> first | exact r.elim | skip
  obtain ⟨a0, te, hle⟩ := at_whole hW
  refine wpAny_execs_cons ?_
  refine wpAny_Try_except ?_
  refine JT.go (c := calleeFc c 640 L ["text", "words", "found"] ["read_words", "read_expr", "GrammarFault"]) (ρ := [("text", .str x), ("words", .loc W.x)]) (Q := fun _ _ _ => False) (X := fun σ2 => Ext W.x σ1 σ2) ?_ (F1.sub hs1) (fun _ _ _ _ _ _ _ _ f => f.elim) (fun e s2 hx2 => ?_)
  · show JS _ _ _ _ _ _
    repeat k_memK
    refine E_fn rfl g_read_expr rfl ?_
    repeat k_memK
    exact hpar _ _ σ1 _ _ W 0 w1 a0 (by rw [te]; rfl) (calleeN (by (first | lia | omega))) (fun t' et => by cases et) fun _ σ2 ex => ex
  -- the handler
  have frs : (A.deeper (callEnv (fdOf 640) L 640)).frames = some (callEnv (fdOf 640) L 640 :: c.env :: outer) := F0.frames
  refine note_any (c := calleeFc c 640 L ["text", "words", "found"] ["read_words", "read_expr", "GrammarFault"]) frs rfl hx2 fun a σ2 s3 a0' ea b hh ex => ?_
  subst ea
  refine wpAny_landsW hh fun h4 hfl4 u4 => ?_
  have st4 : c.H.StaysIn h4 := hfl4.1
  have K4 : (KO c.w.params).In h4 := F.base.says.objs.keeps st4
  refine wpAny_handleBy_cons (codeAny_handlers_test ?_) (by intro q; cases q)
  have ev : ∀ (A' : Around) (Q' : Value → Shared → Prop) (E' : Value → Shared → Prop) (sx : Shared), c.H.StaysIn sx.heap → Q' (.ref 57) sx → ∀ (p : Pos), wpAny (model pw c.w) A' (eval (.Name (Str.ofString "GrammarFault") p) (callEnv (fdOf 640) L 640)) Q' E' sx := fun A' Q' E' sx st hq p =>
    wpAny_Name (loadName_g F0.kind (F0.glos _ (by rfl)) (loadGlobal_global (by rw [show (callEnv (fdOf 640) L 640).globals = mainGlobals from F0.globals]; exact F.base.g.keeps st) (glob_is F.base g_GrammarFault) hq)) (by decide)
  refine ev _ _ _ _ st4 ?_ _
  obtain ⟨ob, hob, hobc⟩ := hfl4.there
  have LT : Looks (model pw c.w) h4 (typeOf (.ref a)) (.ref 57) := hobc ▸ (Looks.ld hob).andThen .now
  refine (exm_one K4 LT (fault_match _)).here ?_
  rw [if_pos rfl]
  refine codeAny_handlers_suite (lands_againW hfl4 fun h5 hfl5 u5 => ?_)
  refine wpAny_execs_cons (wpAny_Return_some (wpAny_Constant_none ?_))
  have b5 := b.slots (h' := h5) (stack' := callEnv (fdOf 640) L 640 :: c.env :: outer) (l' := some L) (x' := .ref a) (u4.trans u5) ⟨a, rfl, .flying hfl5⟩
  have b6 := G1.bad b5 (frameK F1)
  have b7 : Bad c.w c.H none s σ { s3 with heap := h5 } σ2 (.ref a) (callEnv (fdOf 640) L 640 :: c.env :: outer) (some L) :=
    ⟨⟨b6.rest.1.trans rest0.1, b6.rest.2.1.trans rest0.2.1, b6.rest.2.2.trans rest0.2.2⟩, b6.exc, b6.lists, fun y o e n _ f => b6.evo y o (hk y o e) n (apart y o e) f, fun y o e n => b6.old y o (hk y o e) n⟩
  obtain ⟨_, _, ⟨_, _, fr⟩, _⟩ := id hfl5
  exact ⟨.none, listsOf σ2, b7.rest, bad_frame F b7 hfl5.1 fr, rfl, q _ fun y as e => listsOf_list (ex y _ (fun z => by rw [z, nx] at e; cases e) (k1 y _ e))⟩

/-! # Text WQG -/
/-! # The pool -/
structure Scr (H : Heap) (a : Addr) (vs : Array Value) : Prop where
  is : H.IsList a vs
  size : vs.size ≤ 1000
  allI : ∀ v ∈ vs.toList, ∃ i t, v = Value.int i t
theorem Scr.at {H h : Heap} {a : Addr} {vs : Array Value} (x : Scr H a vs) (k : ∀ b o, H.get? b = some o → h.get? b = some o) : h.IsList a vs := by
  obtain ⟨o, e, c, n, d⟩ := x.is
  exact ⟨o, k _ _ e, c, n, d⟩
section
variable {c : Fc} {ρ : List (Str × AV)} {P : List (Value × AV)} {σ : Store} {Q : AV → Store → Prop} {X : Store → Prop}
theorem call_lenV {a : Addr} {vs : Array Value} (hS : Scr c.H a vs) (q : Q (.int vs.size) σ) : CallJ c ρ (.builtin "len") [.val (.ref a)] σ Q X := CallJ.grow (r := .int vs.size) (fun A outer s vals F rs Q' E' k => by
  obtain ⟨v, rfl, r⟩ := vrels1 rs
  obtain rfl : v = .ref a := r
  refine call_len_list (hS.at F.ok.stays) (by have := hS.size; (first | lia | omega)) ?_
  exact k _ _ _ (fun _ _ e => e) ⟨_, rfl⟩) q
theorem sub_V {slice : Expr} {a : Addr} {vs : Array Value} {i : Int} {t : Tok} (hs : Plain slice) (hS : Scr c.H a vs) (h0 : vs[0]? = some (.int i t)) (q : Q (.int i) σ) : SubJ c ρ slice (.val (.ref a)) (.int 0) σ Q := fun x y P value hx hy X =>
  J.still (a' := .int i) (fun A outer s F _ _ h => by
    obtain rfl : x = .ref a := F.pend _ hx
    obtain ⟨u, rfl⟩ := F.pend _ hy
    obtain ⟨ops, hs⟩ := hs (.ref a) (.int 0 u)
    have T := hS.at F.ok.stays
    exact tail_any T.typeIs slot_list_getitem.lookup (wpAny_getItem_list T (by decide) (by decide) (by simpa using h0) (h (.int i t) _ ⟨_, rfl⟩)) hs) q
theorem law_pool_ok {a : Addr} {vs : Array Value} (hS : Scr c.H a vs) (hn : 1 ≤ c.n) (q : ∀ S σ', σ S = none → Kp σ σ' → SrcAt σ' S → Q (.loc S) σ') : CallJ c ρ (.ref 581) [.val (.ref a), .int 0] σ Q X := by
  refine call_def0 c_law_pool b_law_pool hn (ρ₀ := [("script", .val (.ref a)), ("k", .int 0)]) ⟨rfl, rfl⟩ fun L => ?_
  conv => arg 3; whnf
  repeat k_memK
  refine call_lenV (c := calleeFc c 581 L ["script", "k", "cell", "big", "mixed"] ["len", "max", "int"]) hS ?_
  repeat k_memK
  refine cmp_I (b := decide ((0 : Int) < vs.size)) rfl ?_
  suffices hcell : ∀ i : Int, JS (calleeFc c 581 L ["script", "k", "cell", "big", "mixed"] ["len", "max", "int"]) (Lv [("script", .val (.ref a)), ("k", .int 0), ("cell", .int i)]) _ σ (Ret Q) X by
    by_cases hv : 0 < vs.size
    · rw [if_pos (decide_eq_true (by (first | lia | omega)))]
      repeat k_memK
      obtain ⟨i, t, e⟩ := hS.allI (vs[0]'hv) (by simp)
      refine sub_V (c := calleeFc c 581 L ["script", "k", "cell", "big", "mixed"] ["len", "max", "int"]) (i := i) (t := t) (fun _ _ => ⟨_, rfl⟩) hS (by rw [Array.getElem?_eq_getElem hv, e]) ?_
      refine S_nil ?_
      exact hcell i
    · rw [if_neg fun h => hv (by have := of_decide_eq_true h; (first | lia | omega))]
      refine S_nil ?_
      exact hcell 0
  intro i
  repeat k_memK
  refine call_intI ?_
  repeat k_memK
  refine E_neg (i := 1) ?_
  repeat k_memK
  refine ⟨rfl, ?_⟩
  repeat k_memK
  refine bin_subI ?_
  repeat k_memK
  refine call_intI ?_
  repeat k_memK
  refine call_max2 ?_
  obtain ⟨b, eb⟩ : ∃ b, b = (if -1 - i > i then -1 - i else i) := ⟨_, rfl⟩
  rw [← eb]
  repeat k_memK
  refine call_intI ?_
  repeat k_memK
  refine bin_modI (by decide) ?_
  have u0 := Int.fmod_nonneg_of_pos b (show (0 : Int) < 2147483629 by decide)
  have u1 := Int.fmod_lt_of_pos b (show (0 : Int) < 2147483629 by decide)
  generalize b.fmod 2147483629 = u at u0 u1
  repeat k_memK
  refine bin_mulI (.of_left (bits_small (by decide))) ?_
  repeat k_memK
  refine bin_mulI (.of_left (bits_small (by decide))) ?_
  repeat k_memK
  refine bin_addI ?_
  repeat k_memK
  refine bin_mulI (.of_left (bits_small (by decide))) ?_
  repeat k_memK
  refine bin_addI ?_
  repeat k_memK
  refine bin_addI ?_
  repeat k_memK
  refine bin_mulI (.of_left (bits_small (by (first | lia | omega)))) ?_
  repeat k_memK
  refine call_intI ?_
  repeat k_memK
  refine bin_modI (by decide) ?_
  generalize ((u + 7919 * 0 * 0 + 31 * 0 + 17) * 48271) = z
  have m0 := Int.fmod_nonneg_of_pos z (show (0 : Int) < 2147483647 by decide)
  have m1 := Int.fmod_lt_of_pos z (show (0 : Int) < 2147483647 by decide)
  generalize z.fmod 2147483647 = mx at m0 m1
  repeat k_memK
  refine bin_powI (by decide) (by decide) ?_
  repeat k_memK
  refine cmp_I (b := decide ((10 : Int) ^ (18 : Int).toNat ≤ b)) rfl ?_
  repeat k_memK
  refine call_intB ?_
  refine bin_mulI (.of_right (bits_small (by split <;> decide))) ?_
  repeat k_memK
  intro S hSn
  exact retq (q S _ hSn (Kp.set hSn) ⟨_, _, Store.set_same, m0, m1⟩)
end

/-! # Text WQH -/
/-! # Trees and statements whose faults were caught -/
section
variable {c : Fc} {ρ : List (Str × AV)} {σ : Store}
noncomputable def EvW (c : Fc) (ρ : List (Str × AV)) (e : Expr) (σ : Store) (Q : AV → Store → Prop) : Prop := ∀ A outer s, InFr c ρ [] A outer s σ → wpAny (model pw c.w) A (eval e c.env) (fun v s' => ∃ b σ', Rest s s' ∧ InFr c ρ [] A outer s' σ' ∧ VRel s'.heap v b ∧ Q b σ') (fun _ _ => False) s
noncomputable def TstW (c : Fc) (ρ : List (Str × AV)) (e : Expr) (σ : Store) (Q : Bool → Store → Prop) : Prop := ∀ A outer s, InFr c ρ [] A outer s σ → wpAny (model pw c.w) A (isTrue e c.env (eval e c.env)) (fun v s' => ∃ σ', Rest s s' ∧ InFr c ρ [] A outer s' σ' ∧ Q v σ') (fun _ _ => False) s
noncomputable def JSW (c : Fc) (ρ : List (Str × AV)) (ss : List Stmt) (σ : Store) (Q : Fl → List (Str × AV) → Store → Prop) : Prop := ∀ A outer s, InFr c ρ [] A outer s σ → wpAny (model pw c.w) A (execs ss c.env) (fun f s' => ∃ fl ρ' σ', Rest s s' ∧ InFr c ρ' [] A outer s' σ' ∧ FRel s'.heap f fl ∧ Q fl ρ' σ') (fun _ _ => False) s
theorem Rest.tr {s₁ s₂ s₃ : Shared} (x : Rest s₁ s₂) (y : Rest s₂ s₃) : Rest s₁ s₃ := ⟨y.1.trans x.1, y.2.1.trans x.2.1, y.2.2.trans x.2.2⟩
theorem EvW_call {x : Str} {p pos : Pos} {arg : Expr} {f : Addr} {Q : AV → Store → Prop} (hk : c.glo.contains x = true) (hg : gval x = some (.ref f)) (hf : keepIn (KO c.w.params) (.ref f) = true) (hs : notStar arg = true) (h : Ev c ρ [] arg σ (fun a σ₁ => CallW c ρ (.ref f) [a] σ₁ Q) noX) (hd : (x == ("__debug__" : Str)) = false := by decide)
    (he : eval (.Call (.Name x p) [arg] [] pos) c.env = (do callWith pos (← eval (.Name x p) c.env) [] (backTo pos (starEach [arg] c.env)) (backToKw pos (keywordEach [] c.env))) := by rfl) : EvW c ρ (.Call (.Name x p) [arg] [] pos) σ Q := fun A outer s F => by
  refine Call_ (J.go (E_gf (c := c) (ρ := ρ) (P := []) (Q := fun a σ₁ => a = .val (.ref f) ∧ σ₁ = σ) (X := noX) hk hg ⟨rfl, rfl⟩ hd) F (fun v a s₁ σ₁ G r ⟨e1, e2⟩ => ?_) fun _ _ ⟨_, _, f⟩ => f) he
  subst e2 e1
  obtain rfl : v = .ref f := r
  have F₁ := F.stepL G
  refine callWith_K (h₀ := s₁.heap) F₁.K hf (J.go (Evs_cons (pos := pos) (Q := fun as σ₂ => ∃ a, as = [a] ∧ CallW c ρ (.ref f) [a] σ₂ Q) (X := noX) (h.mono (fun a σ₂ k => Evs_nil ⟨a, rfl, k⟩) fun _ x => x) (starEach_cons' hs)) F₁ (fun vs as s₂ σ₂ G2 rs ⟨a, e, k⟩ => ?_) fun _ _ ⟨_, _, f⟩ => f) (starEach_cons' hs) (star_any rfl)
  subst e
  have F₂ := F₁.stepL G2
  exact ⟨F₂.K, wpAny_mono (k A outer s₂ vs F₂ rs.1) (fun v s' ⟨b, σ', r3, F3, rv, q⟩ => ⟨b, σ', Rest.tr (Rest.tr G.rest G2.rest) r3, F3, rv, q⟩) fun _ _ x => x⟩
theorem pairW {l r : Expr} {α : Type} {A : Around} {outer : List Env} {s : Shared} {K : AV → AV → Store → Prop} {t : Value → Value → Sem α} {Q' : α → Shared → Prop} (F : InFr c ρ [] A outer s σ) (h : EvW c ρ l σ (fun a σ₁ => Ev c ρ [] r σ₁ (fun b σ₂ => K a b σ₂) noX))
    (k : ∀ x y a b s₂ σ₂, Rest s s₂ → InFr c ρ [(x, a), (y, b)] A outer s₂ σ₂ → K a b σ₂ → wpAny (model pw c.w) A (t x y) Q' (fun _ _ => False) s₂) :
    wpAny (model pw c.w) A (eval l c.env) (fun x s₁ => wpAny (model pw c.w) A (eval r c.env) (fun y s₂ => wpAny (model pw c.w) A (t x y) Q' (fun _ _ => False) s₂) (fun _ _ => False) s₁) (fun _ _ => False) s :=
  wpAny_mono (h A outer s F) (fun x s₁ ⟨a, σ₁, R1, F₁, rx, hr⟩ => by
    have k1 : ∀ p ∈ [(x, a)], VRel s₁.heap p.1 p.2 := fun p hp => by cases List.mem_singleton.mp hp; exact rx
    have F₁' : InFr c ρ [(x, a)] A outer s₁ σ₁ := { F₁ with pend := k1 }
    refine J.go (J.weaken (P' := [(x, a)]) hr fun p hp => nomatch hp) F₁' (fun y b s₂ σ₂ G ry kk => ?_) fun _ _ ⟨_, _, f⟩ => f
    refine k x y a b s₂ σ₂ (Rest.tr R1 G.rest) (F₁'.step G fun p hp => ?_) kk
    rcases List.mem_cons.mp hp with rfl | hp
    · exact .inl (.head _)
    · cases List.mem_singleton.mp hp; exact .inr ry) fun _ _ x => x
theorem TstW_cmp {l r : Expr} {op : CmpOp} {pos : Pos} {Q : Bool → Store → Prop} (h : EvW c ρ l σ (fun a σ₁ => Ev c ρ [] r σ₁ (fun b σ₂ => CmpJ c ρ op a b σ₂ Q) noX)) (hm : behindInMarks op r = false := by with_unfolding_all rfl) : TstW c ρ (.Compare l [op] [r] pos) σ Q := fun A outer s F => by
  rw [isTrue_Compare1, markedBehindIn_of_false hm]
  refine wpAny_bind (wpAny_mono (pairW (K := fun a b σ₂ => CmpJ c ρ op a b σ₂ Q) (t := fun x y => (do standAt pos; let v ← operate [x, y] (compareOp op x y); holding [v] (truthy v) : Sem Bool)) (Q' := fun v s' => ∃ σ', Rest s s' ∧ InFr c ρ [] A outer s' σ' ∧ Q v σ') F h (fun x y a b s₂ σ₂ R2 F2 kk => ?_)) (fun x s₁ hx => wpAny_bind (wpAny_holding hx)) fun _ _ f => f)
  refine wpAny_bind (wpAny_standAt (wpAny_bind (wpAny_operateT (J.go (kk x y [(x, a), (y, b)] (.head _) (.tail _ (.head _)) noX) F2 (fun z d s₃ σ₃ G₃ r₃ q => ?_) fun _ _ ⟨_, _, f⟩ => f))))
  subst r₃
  exact wpAny_holding (wpAny_truthy_bool ⟨σ₃, Rest.tr R2 G₃.rest, F2.bare.stepL G₃, q⟩)
theorem EvW_cmp {l r : Expr} {op : CmpOp} {pos : Pos} {Q : AV → Store → Prop} (h : EvW c ρ l σ (fun a σ₁ => Ev c ρ [] r σ₁ (fun b σ₂ => CmpJ c ρ op a b σ₂ (fun b => Q (.bool b))) noX)) (hm : behindInMarks op r = false := by with_unfolding_all rfl) : EvW c ρ (.Compare l [op] [r] pos) σ Q := fun A outer s F => by
  rw [eval_Compare1, markedBehindIn_of_false hm]
  refine wpAny_bind (wpAny_mono (pairW (K := fun a b σ₂ => CmpJ c ρ op a b σ₂ (fun b => Q (.bool b))) (t := fun x y => (do standAt pos; operate [x, y] (compareOp op x y) : Sem Value)) (Q' := fun v s' => ∃ b σ', Rest s s' ∧ InFr c ρ [] A outer s' σ' ∧ VRel s'.heap v b ∧ Q b σ') F h (fun x y a b s₂ σ₂ R2 F2 kk => ?_)) (fun x s₁ hx => wpAny_bind (wpAny_holding hx)) fun _ _ f => f)
  refine wpAny_bind (wpAny_standAt (wpAny_operateT (J.go (kk x y [(x, a), (y, b)] (.head _) (.tail _ (.head _)) noX) F2 (fun z d s₃ σ₃ G₃ r₃ q => ?_) fun _ _ ⟨_, _, f⟩ => f)))
  subst r₃
  exact ⟨.bool d, σ₃, Rest.tr R2 G₃.rest, F2.bare.stepL G₃, rfl, q⟩
theorem JSW_J {st : Stmt} {rest : List Stmt} {Q : Fl → List (Str × AV) → Store → Prop} (h : J1 c ρ st σ (fun fl ρ₁ σ₁ => fl = .next ∧ JSW c ρ₁ rest σ₁ Q) noX) : JSW c ρ (st :: rest) σ Q := fun A outer s F =>
  wpAny_execs_cons (JT.go h F (fun f fl ρ₁ s₁ σ₁ G F₁ r ⟨e, k⟩ => by
    subst e
    cases f <;> first | exact r.elim | skip
    exact wpAny_mono (k A outer s₁ F₁) (fun f s' ⟨fl, ρ', σ', R, F', r', q⟩ => ⟨fl, ρ', σ', Rest.tr G.rest R, F', r', q⟩) fun _ _ x => x) fun _ _ ⟨_, _, f⟩ => f)
theorem JSW_ret {e : Expr} {pos : Pos} {Q : Fl → List (Str × AV) → Store → Prop} (h : EvW c ρ e σ (fun a σ₁ => Q (.ret a) ρ σ₁)) : JSW c ρ [.Return (some e) pos] σ Q := fun A outer s F =>
  wpAny_execs_cons (wpAny_Return_some (wpAny_mono (h A outer s F) (fun v s' ⟨b, σ', R, F', r, q⟩ => ⟨.ret b, ρ, σ', R, F', r, q⟩) fun _ _ x => x))
theorem JSW_or {t1 t2 : Expr} {p pos : Pos} {body rest : List Stmt} {Q : Fl → List (Str × AV) → Store → Prop} (h : Tst c ρ [] t1 σ (fun b σ₁ => b = false ∧ TstW c ρ t2 σ₁ (fun b σ₂ => b = false ∧ JSW c ρ rest σ₂ Q)) noX) : JSW c ρ (.If (.BoolOp .Or [t1, t2] p) body [] pos :: rest) σ Q := fun A outer s F => by
  refine wpAny_execs_cons (wpAny_If (wpAny_isTrue_BoolOp (wpAny_allTrue_Or_cons (J.go h F (fun v b s₁ σ₁ G r ⟨e, k⟩ => ?_) fun _ _ ⟨_, _, f⟩ => f))))
  subst e
  obtain rfl : v = false := r
  refine wpAny_allTrue_Or_cons (wpAny_mono (k A outer s₁ (F.stepL G)) (fun v s₂ ⟨σ₂, R2, F2, e, k2⟩ => ?_) fun _ _ x => x)
  subst e
  refine wpAny_allTrue_Or_nil ?_
  refine wpAny_execs_nil ?_
  exact wpAny_mono (k2 A outer s₂ F2) (fun f s' ⟨fl, ρ', σ', R, F', r', q⟩ => ⟨fl, ρ', σ', Rest.tr (Rest.tr G.rest R2) R, F', r', q⟩) fun _ _ x => x
end

/-! # Text WQI -/
/-! # The five fixed operands, and three compared in a row -/
noncomputable def FT : List AV := [pathT "a" 0, pathT "b" 4, pathT "c" 8, pathT "d" 12, pathT "e" 16]
noncomputable def FO : List Str := ["-", "-", "<", "*"]
noncomputable def NAMES : List AV := [.str "a", .str "b", .str "c", .str "d", .str "e"]
theorem op_name {n : Nat} {x : Str} (hx : x ∈ (["a", "b", "x", "c", "d", "e"] : List Str)) : OP n x (some (pathT x n)) 53 6 := by
  have h := cast_none (name_piece (n := n) (x := x) .bare hx)
  have e : x ++ Way.txt .bare = x := append_empty x
  rw [e] at h
  exact h
theorem fixed_dp : DP 0 "a - b - c < d * e" (parted 5 FT FO) 100 10 := by
  have r1 := row_one (op_name (n := 0) (x := "a") (by decide))
  have r2 := row_more r1 (op := "-") (by decide) (by rw [show 0 + (str "a" ++ " " ++ "-" ++ " ").length = 4 by kernel_rfl]; exact op_name (n := 4) (x := "b") (by decide))
  have r3 := row_more r2 (op := "-") (by decide) (by rw [show 0 + (str "a" ++ " " ++ "-" ++ " " ++ "b" ++ " " ++ "-" ++ " ").length = 8 by kernel_rfl]; exact op_name (n := 8) (x := "c") (by decide))
  have r4 := row_more r3 (op := "<") (by decide) (by rw [show 0 + (str "a" ++ " " ++ "-" ++ " " ++ "b" ++ " " ++ "-" ++ " " ++ "c" ++ " " ++ "<" ++ " ").length = 12 by kernel_rfl]; exact op_name (n := 12) (x := "d") (by decide))
  have r5 := row_more r4 (op := "*") (by decide) (by rw [show 0 + (str "a" ++ " " ++ "-" ++ " " ++ "b" ++ " " ++ "-" ++ " " ++ "c" ++ " " ++ "<" ++ " " ++ "d" ++ " " ++ "*" ++ " ").length = 16 by kernel_rfl]; exact op_name (n := 16) (x := "e") (by decide))
  have d := row_done r5 (by decide)
  have ex : (str "a" ++ " " ++ "-" ++ " " ++ "b" ++ " " ++ "-" ++ " " ++ "c" ++ " " ++ "<" ++ " " ++ "d" ++ " " ++ "*" ++ " " ++ "e") = str "a - b - c < d * e" := by kernel_rfl
  have d' := d.up (N' := 100) (K' := 10) (by decide) (by decide)
  rw [ex] at d'
  exact d'
theorem three_dp : DP 0 "a < b < c" none 100 10 := by
  have r1 := row_one (op_name (n := 0) (x := "a") (by decide))
  have r2 := row_more r1 (op := "<") (by decide) (by rw [show 0 + (str "a" ++ " " ++ "<" ++ " ").length = 4 by kernel_rfl]; exact op_name (n := 4) (x := "b") (by decide))
  have r3 := row_more r2 (op := "<") (by decide) (by rw [show 0 + (str "a" ++ " " ++ "<" ++ " " ++ "b" ++ " " ++ "<" ++ " ").length = 8 by kernel_rfl]; exact op_name (n := 8) (x := "c") (by decide))
  have d := row_done r3 (by decide)
  have ex : (str "a" ++ " " ++ "<" ++ " " ++ "b" ++ " " ++ "<" ++ " " ++ "c") = str "a < b < c" := by kernel_rfl
  have d' := d.up (N' := 100) (K' := 10) (by decide) (by decide)
  rw [ex] at d'
  exact d'
theorem fixed_some : ∃ t, parted 5 FT FO = some t := Option.isSome_iff_exists.mp (by kernel_rfl)
theorem names_at : ∀ (k : Nat) (a : AV), (enumAV NAMES)[k]? = some a → ∃ s, a = .tup [.int (k : Nat), .str s] ∧ FT[k]? = some (pathT s (4 * (k : Nat)))
  | 0, a, h => by cases h; exact ⟨"a", rfl, rfl⟩
  | 1, a, h => by cases h; exact ⟨"b", rfl, rfl⟩
  | 2, a, h => by cases h; exact ⟨"c", rfl, rfl⟩
  | 3, a, h => by cases h; exact ⟨"d", rfl, rfl⟩
  | 4, a, h => by cases h; exact ⟨"e", rfl, rfl⟩
  | k + 5, a, h => by
    have := (List.getElem?_eq_some_iff.mp h).1
    have e : (enumAV NAMES).length = 5 := rfl
    (first | lia | omega)
noncomputable def ρn : AV → List (Str × AV)
  | .tup [x, y] => [("at", x), ("name", y)]
  | _ => []
theorem tree_eq {K K' : Nat} {t : AV} (h : TreeOK K t) (hK : K ≤ 100) : ∃ d, t.dat = some d ∧ d.canLay0 = true ∧ d.depth ≤ 100 ∧ PyData.eqv d d = true := by
  obtain ⟨_, d, e1, e2, e3⟩ := h
  exact ⟨d, e1, e2, by (first | lia | omega), SeqAt.eqv_refl d e2⟩
section
variable {c : Fc}
set_option maxHeartbeats 1000000 in
theorem law_body {L a : Addr} {vs : Array Value} (hS : Scr c.H a vs) (hn : 251 ≤ c.n) : JSW (calleeFc c 645 L ["script", "source", "names", "ops", "fixed", "text", "due"] ["_law_pool", "_law_parted", "enumerate", "_law_told", "_law_drawn"]) [("script", .val (.ref a))] (bodyOf 645) (fun _ => none) (fun fl _ _ => fl = .ret (.bool true)) := by
  conv => arg 3; whnf
  refine JSW_J ?_
  with_reducible refine S_assign ?_ ?_ ?_
  · rfl
  rotate_left
  · rfl
  refine E_fn rfl g__law_pool rfl ?_
  repeat k_memK
  refine law_pool_ok (c := calleeFc c 645 L ["script", "source", "names", "ops", "fixed", "text", "due"] ["_law_pool", "_law_parted", "enumerate", "_law_told", "_law_drawn"]) hS (calleeN (by (first | lia | omega))) fun S σ1 nS k1 hS1 => ⟨rfl, ?_⟩
  refine JSW_J ?_
  refine S_pairW (by rfl) (by rfl) ?_ (by rfl) (by rfl)
  repeat k_memK
  intro NL hNL
  repeat k_memK
  intro OL hOL
  repeat k_memK
  refine ⟨_, _, rfl, rfl, ?_⟩
  obtain ⟨σ2, eσ2⟩ : ∃ σ2, σ2 = (σ1.set NL (.list NAMES)).set OL (.list (FO.map .str)) := ⟨_, rfl⟩
  have sN2 : σ2 NL = some (.list NAMES) := by rw [eσ2]; exact Kp.set hOL _ _ Store.set_same
  have sO2 : σ2 OL = some (.list (FO.map .str)) := by rw [eσ2]; exact Store.set_same
  have k2 : Kp σ1 σ2 := fun a cl e => by rw [eσ2]; exact Kp.set hOL _ _ (Kp.set hNL _ _ e)
  have hS2 := hS1.kept k2
  have eσ2' : (σ1.set NL (.list [.str "a", .str "b", .str "c", .str "d", .str "e"])).set OL (.list [.str "-", .str "-", .str "<", .str "*"]) = σ2 := eσ2.symm
  rw [eσ2']
  clear eσ2 eσ2'
  refine JSW_J ?_
  with_reducible refine S_assign ?_ ?_ ?_
  · rfl
  rotate_left
  · rfl
  refine E_fn rfl g__law_parted rfl ?_
  with_reducible refine Evs_cons ?_ ?_
  rotate_left
  · rfl
  with_reducible refine E_lcE1 (t := NL) (as := NAMES) (cl := []) ?_ ?_ ?_ sN2 ?_ ρn ?_ (fun D k l σ' => l = FT.take k ∧ σ2 D = none ∧ Kp σ2 σ') ?_ ?_ ?_ ?_ ?_
  rotate_right
  · rfl
  · exact ⟨fun _ _ _ => rfl, fun _ _ _ _ => rfl, fun _ _ _ => rfl, fun _ _ _ => rfl, fun _ => rfl, by kernel_rfl, by decide, by rfl, by decide⟩
  · rfl
  · rfl
  · decide
  · intro C x hx σ'
    obtain ⟨k, hk, e⟩ := List.mem_iff_getElem.mp hx
    obtain ⟨s, rfl, _⟩ := names_at k x (by rw [List.getElem?_eq_getElem hk, e])
    exact tgtC_pair (by rfl) (by rfl) (by rfl)
  · exact fun D k l σ' h => h.2.2 _ _ sN2
  · exact fun D hD => ⟨rfl, hD, Kp.set hD⟩
  · intro D C k x l σ' hx hj hs
    obtain ⟨hl, hD, kp⟩ := hj
    obtain ⟨s, rfl, hft⟩ := names_at k x hx
    have hk5 : k < 5 := (List.getElem?_eq_some_iff.mp hft).1
    refine TsC_nil ?_
    rw [if_pos rfl]
    refine EvC_call (f := 607) (EvC_gf (by rfl) (by kernel_rfl) c_law.glb g__law_path ⟨rfl, ?_⟩) (by kernel_rfl)
    refine EvsC_cons rfl (EvC_name (by rfl) (by kernel_rfl) rfl (v := .str s) (by rfl) ?_)
    refine EvsC_cons rfl (EvC_bin (EvC_int (EvC_name (by rfl) (by kernel_rfl) rfl (v := .int (k : Nat)) (by rfl) ?_)))
    refine bin_mulI (.of_left (bits_small (by decide))) ?_
    refine EvsC_nil ?_
    refine law_path_ok (calleeN (by (first | lia | omega))) ?_
    refine ⟨hs, by rw [hl, List.length_take, sizeLine_eq]; (first | lia | omega), ?_, hD, fun b cl e => ?_⟩
    · rw [hl, List.take_add_one, hft]; rfl
    · exact (Store.set_ne fun z => by rw [z, hD] at e; cases e).trans (kp _ _ e)
  intro D σ3 l hj hs
  obtain ⟨hl, hD, k3⟩ := hj
  have hl : l = FT := hl
  subst hl
  repeat k_memK
  refine parted_all 5 FT FO (by decide) (by decide) rfl (by decide) (by decide) _ _ σ3 _ noX D OL hs (k3 _ _ sO2) (calleeN (by (first | lia | omega))) fun σ4 k4 => ⟨rfl, ?_⟩
  obtain ⟨fx, efx⟩ := fixed_some
  rw [efx]
  have hfx := fixed_dp
  rw [efx] at hfx
  have hS4 : SrcAt σ4 S := (hS2.kept k3).kept k4
  refine JSW_or ?_
  repeat k_memK
  refine E_fn rfl g__law_told rfl ?_
  repeat k_memK
  refine told_ok hfx (Nat.le_of_ble_eq_true (by kernel_rfl)) (calleeN (by (first | lia | omega))) fun σ5 k5 => ?_
  repeat k_memK
  obtain ⟨dx, x1, x2, x3, x4⟩ := tree_eq (K' := 0) (hfx.tr fx rfl) (by decide)
  refine cmp_neD x1 x1 x2 x2 (by (first | lia | omega)) ?_
  rw [x4]
  refine ⟨rfl, ?_⟩
  refine TstW_cmp ?_
  refine EvW_call (by rfl) g__law_told (by kernel_rfl) rfl ?_
  repeat k_memK
  refine told_none three_dp (Nat.le_of_ble_eq_true (by kernel_rfl)) (calleeN (by (first | lia | omega))) fun σ6 k6 => ?_
  repeat k_memK
  refine cmp_isNotNone (fun _ e => by cases e) ⟨rfl, ?_⟩
  have hS6 : SrcAt σ6 S := by
    obtain ⟨p, q, e, r⟩ := hS4.kept k5
    exact ⟨p, q, k6 _ _ e, r⟩
  refine JSW_J ?_
  refine S_pair (by rfl) (by rfl) ?_ (by rfl) (by rfl)
  refine E_fn rfl g__law_drawn rfl ?_
  repeat k_memK
  refine drawn1 _ _ σ6 _ noX S "" hS6 (by decide) (calleeN (by (first | lia | omega))) fun F σ7 t r hS7 ks7 hF sF htB hdp => ?_
  rw [empty_append] at sF
  refine ⟨_, _, sF, rfl, ?_⟩
  have hdp : DP 0 t r 162 28 := hdp
  refine JSW_ret ?_
  refine EvW_cmp ?_
  refine EvW_call (by rfl) g__law_told (by kernel_rfl) rfl ?_
  repeat k_memK
  cases r with
  | none =>
    refine told_none hdp (by (first | lia | omega)) (calleeN (by (first | lia | omega))) fun σ8 k8 => ?_
    repeat k_memK
    refine cmp_eqD (a := .none) (b := .none) (da := PyData.none) (db := PyData.none) rfl rfl (by simp [PyData.canLay0]) (by simp [PyData.canLay0]) (by simp [PyData.depth]) ?_
    rfl
  | some t' =>
    refine CallJ.toW (told_ok hdp (by (first | lia | omega)) (calleeN (by (first | lia | omega))) fun σ8 k8 => ?_)
    repeat k_memK
    obtain ⟨dx, x1, x2, x3, x4⟩ := tree_eq (K' := 0) (hdp.tr t' rfl) (by decide)
    refine cmp_eqD x1 x1 x2 x2 (by (first | lia | omega)) ?_
    rw [x4]
end

/-! # Text WQJ -/
/-! # The law, called -/
theorem pre_len {xs : List WData} (h : PySem.Challenge.rw_ot0042_01.row.toRowW.pre.holds PySem.Challenge.rw_ot0042_01.row.toRowW.records { args := [.list xs] } = true) : xs.length ≤ 63 := by
  have e : PySem.Challenge.rw_ot0042_01.row.toRowW.pre.value PySem.Challenge.rw_ot0042_01.row.toRowW.records { args := [.list xs] } = some (WData.bool (!decide ((63 : Int) < xs.length))) := by
    show (match (some (WData.bool (!decide ((63 : Int) < xs.length))) : Option WData) with
      | some (WData.bool false) => some (WData.bool false)
      | some (WData.bool true) => some (WData.bool true)
      | _ => none) = _
    cases decide ((63 : Int) < xs.length) <;> rfl
  unfold WTm.holds at h
  rw [e] at h
  cases hd : decide ((63 : Int) < xs.length) with
  | false => have := of_decide_eq_false hd; (first | lia | omega)
  | true => rw [hd] at h; cases h
theorem ints_all {R : WRecords} {cl : Str → Option Addr} {h : Heap} {xs : List WData} : ∀ {vs : List Value} {as : List Addr}, WShape.hasItems R xs .int = true → ReadsAllW R cl h vs xs as → ∀ v ∈ vs, ∃ i t, v = Value.int i t := by
  induction xs with
  | nil =>
    intro vs as _ r v hv
    cases r
    cases hv
  | cons x xs ih =>
    intro vs as hi hr v hv
    have h2 : WShape.has R x .int = true ∧ WShape.hasItems R xs .int = true := by simpa [WShape.hasItems] using hi
    obtain ⟨i, rfl⟩ := hasW_int h2.1
    cases hr with
    | cons r rs =>
      rcases List.mem_cons.mp hv with rfl | hv
      · cases r with
        | int i t => exact ⟨_, _, rfl⟩
      · exact ih h2.2 rs v hv
theorem law_top {c : Fc} (base : Base c) (hn : 301 ≤ c.n) (hn2 : c.n ≤ 330) {s : Shared} (es : s.heap = c.H) {a : Addr} {vs : Array Value} (hS : Scr c.H a vs) {Q : Value → Shared → Prop} {E : Value → Shared → Prop}
    (q : ∀ s', Rest s s' → (∀ b o, s.heap.get? b = some o → s'.heap.get? b = some o) → Q (.bool true) s') : wpAny (model pw c.w) callerA (call (.ref 645) [.ref a]) Q E s := by
  have kk := c_law.ok
  simp only [Bool.and_eq_true, Bool.not_eq_true'] at kk
  obtain ⟨⟨⟨⟨⟨⟨⟨k1, k2⟩, k3⟩, k4⟩, k5⟩, k6⟩, k7⟩, k8⟩ := kk
  have kind : (fdOf 645).scope.kind = .function := by kernel_rfl
  have K : (KO c.w.params).In s.heap := by rw [es]; exact base.says.objs
  have ho : s.heap.get? 645 = some (rowOf 645).obj := K _ _ (c_law.at_.obj _)
  have hcd : s.heap.CodeRec (fdOf 645).code (fdOf 645).qualname := by rw [c_law.code, c_law.qual, es]; exact base.says.code _ c_law.at_.mem
  have isloc : ∀ {x : Str}, isLocal ((fdOf 645).scope.names.lookup x) = true → (fdOf 645).scope.names.lookup x = some .local := fun {x} h => by
    revert h
    cases (fdOf 645).scope.names.lookup x with
    | none => intro h; cases h
    | some k => cases k <;> first | (intro _; rfl) | (intro h; cases h)
  have isglo : ∀ {x : Str}, isGlob ((fdOf 645).scope.names.lookup x) = true → (fdOf 645).scope.names.lookup x = some .globalImplicit := fun {x} h => by
    revert h
    cases (fdOf 645).scope.names.lookup x with
    | none => intro h; cases h
    | some k => cases k <;> first | (intro _; rfl) | (intro h; cases h)
  have memc : ∀ {l : List Str} {x : Str}, l.contains x = true → x ∈ l := fun h => by simpa using h
  have Bv := b_law _ s [.ref a] K rfl
  have hl : (fdOf 645).scope.names.lookup (str "script") = some NameKind.local := by kernel_rfl
  refine wpAny_call (codeAny_call_def (by show (301 : Nat) < 1000; decide) ho c_law.data (by rw [es]; exact base.lim) hcd c_law.body Bv (fun x hx => ?_) (fun x hx => ?_) (fun h₀ hns hk => ?_) k6 k7 kind)
  · have := List.all_eq_true.mp k1 x hx
    intro z; rw [z] at this; cases this
  · have hx' : x ∈ [((str "script"), Value.ref a)] := hx
    cases List.mem_singleton.mp hx'
    exact hl
  have stays : ∀ b o, c.H.get? b = some o → h₀.get? b = some o := fun b o e => hk b o (by rw [es]; exact e)
  have F0 : InFr (calleeFc c 645 s.heap.objs.size ["script", "source", "names", "ops", "fixed", "text", "due"] ["_law_pool", "_law_parted", "enumerate", "_law_told", "_law_drawn"]) [("script", .val (.ref a))] [] (callerA.deeper (callEnv (fdOf 645) s.heap.objs.size 645)) [] { s with heap := h₀, toks := s.toks + [((str "script"), Value.ref a)].length } (fun _ => none) := {
    base := ⟨base.says, base.g, base.b, base.bi, base.lim, base.free⟩
    handled := rfl
    depth := by show 301 + 1 + 2 * (c.n - 1) + 2 ≤ 1000; (first | lia | omega)
    units := by show 4 + 3 + 20 * (c.n - 1) + 200 ≤ 9900; (first | lia | omega)
    frames := Around.frames_deeper rfl
    kind := kind
    frame := rfl
    globals := c_law.glb
    builtins := c_law.blt
    stack := Heap.FunFrames.cons (by show (fdOf 645).scope.kind ≠ _; rw [kind]; decide) rfl hns (by rw [es]; exact get_end _) trivial
    apart := fun _ _ _ _ => rfl
    ns := ⟨_, hns, fun x av e => by
      rw [List.lookup_cons] at e
      cases z : x == ("script" : Str) with
      | true =>
        rw [z] at e; cases e
        have := eq_of_beq z
        subst this
        exact ⟨.ref a, rfl, rfl⟩
      | false => rw [z] at e; cases e⟩
    known := fun x av e => by
      rw [List.lookup_cons] at e
      cases z : x == ("script" : Str) with
      | true => rw [eq_of_beq z]; exact hl
      | false => rw [z] at e; cases e
    locs := fun x h => isloc (List.all_eq_true.mp k3 _ (memc h))
    glos := fun x h => isglo (List.all_eq_true.mp k4 _ (memc h))
    ok := ⟨stays, fun _ _ e => (nomatch e), fun _ _ _ _ e => nomatch e⟩
    pend := fun _ hp => nomatch hp }
  refine wpAny_mono (law_body hS (by (first | lia | omega)) _ _ _ F0) (fun f s' hh => ?_) fun _ _ f => f.elim
  obtain ⟨fl, ρ', σ', R, F', r, e⟩ := hh
  have e : fl = Fl.ret (AV.bool true) := e
  subst e
  have K : ∀ b o, s.heap.get? b = some o → s'.heap.get? b = some o := fun b o e => F'.ok.stays b o (show c.H.get? b = some o by rw [← es]; exact e)
  cases f with
  | ret v =>
    have r : v = Value.bool true := r
    subst r
    exact q s' R K
  | _ => exact r.elim
theorem post_true {xs : List WData} : PySem.Challenge.rw_ot0042_01.row.toRowW.claim.post [.list xs] (.bool true) [.list xs] = true := by
  show (true && (WTm.eq .res (.lit (.bool true))).holds _ { args := [.list xs], res := some (.bool true), after := [.list xs] }) = true
  first | rfl | kernel_rfl | simp [WTm.holds, WTm.value]
theorem free_names : ∀ x ∈ (["len", "min", "max", "int", "range", "enumerate", "dict", "list", "tuple"] : List Str), x ∉ startupNames ∧ x ∉ looseW q loose ∧ x ∉ (recsOf q).map (·.name) ∧ x ∉ (litsOf q).map (·.1) ∧ x ∉ (clssOf q (looseW q loose)).map (·.name) := by decide +kernel
theorem walk_law : WalkO q loose (fun _ _ => True) Says PySem.Challenge.rw_ot0042_01.row.toRowW lawRec [] fun f vs => PySem.call f vs := by
  intro w s₀ s₁ mg mb G Y fa o pm cd doc dV kV ho hd hcd hD hmg hg args vals as hpre hlay hrd hwl hlo
  have e1 : mg "law" = some (.ref 645) := by
    obtain ⟨g, hgm, e1, e2⟩ := gval_mem g_law
    have := ns_of_nsMap G.T.g (Y.glob g hgm)
    rw [e1, e2] at this; exact this
  have hname : lawRec.name = str "law" := by kernel_rfl
  rw [hname, e1] at hmg
  cases hmg
  obtain ⟨h1, h2⟩ := pre_splitW hpre
  obtain ⟨d, r, rfl, hd1, hr⟩ := hasAllW_cons h1
  obtain rfl := hasAllW_nil hr
  obtain ⟨xs, rfl, hit⟩ := hasW_list hd1
  have hlen := pre_len h2
  cases hrd with
  | cons rv rn =>
    cases rn
    obtain ⟨a, vs, as', rfl, T, ri, _⟩ := readsW_list_inv rv
    have scr : Scr s₁.heap a vs := ⟨T, by have := ReadsAllW.length ri; rw [Array.length_toList] at this; (first | lia | omega), ints_all hit ri⟩
    refine law_top (c := ⟨w, s₁.heap, mg, mb, 301, callEnv (fdOf 645) 0 645, [], []⟩) ⟨Y, G.T.g, G.T.b, G.T.builtins, G.T.nolimit, fun x hx => by
      have hx' : x ∈ (["len", "min", "max", "int", "range", "enumerate", "dict", "list", "tuple"] : List Str) ∨ x = "Exception" := by
        rw [show (["len", "min", "max", "int", "range", "enumerate", "dict", "list", "tuple", "Exception"] : List Str) = (["len", "min", "max", "int", "range", "enumerate", "dict", "list", "tuple"] : List Str) ++ (["Exception"] : List Str) from rfl] at hx
        exact (List.mem_append.mp hx).imp id List.mem_singleton.mp
      rcases hx' with hx | rfl
      · obtain ⟨f1, f2, f3, f4, f5⟩ := free_names x hx
        exact G.T.free x f1 f2 f3 f4 f5
      · exact none_of_nsMap G.T.g Y.gone⟩ (Nat.le_refl _) (by show 301 ≤ 330; decide) rfl scr fun s' R kp => ?_
    refine ⟨.inl ⟨.bool true, .bool true, [], rfl, fun _ => rfl, .bool true, post_true, fun _ => ⟨List.nodup_nil, fun _ h => nomatch h⟩⟩, .of_keep kp, R.2.2, .of_eq (R.1.trans hg)⟩
end Mine

theorem PySem.Challenge.cw_ot0042_01_holds : PySem.Challenge.rw_ot0042_01.Holds :=
  Mine.hd Mine.walk_law
