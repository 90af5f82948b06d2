import PyProof.Rows.All
import Wide.All
import OpenK.AllK
import Wide.FinOn
import Lean
import PySem.Challenge.RW_qd0073_01
set_option Elab.async false
set_option maxRecDepth 100000
set_option linter.unusedVariables false
section
open PySem PySem.W PySem.Calls PyProof.Rows
namespace Mine
noncomputable abbrev pw : Program := PySem.Challenge.pw_qd0073_01
noncomputable def topS (i : Nat) : Stmt := match pw.main.body.drop i with | s :: _ => s | [] => .Pass default
noncomputable def clsS (i j : Nat) : Stmt := match topS i with | .ClassDef _ _ _ b _ _ _ _ _ _ _ => (match b.drop j with | s :: _ => s | [] => .Pass default) | s => s
noncomputable def fdB : Stmt → List Stmt | .FunctionDef _ _ b _ _ _ _ _ _ _ => b | _ => []
noncomputable def fdP : Stmt → Arguments | .FunctionDef _ a _ _ _ _ _ _ _ _ => a | _ => ⟨[], [], none, [], [], none, []⟩
noncomputable def fdS : Stmt → Scope | .FunctionDef _ _ _ _ _ _ s _ _ _ => s | _ => { kind := .function, names := [], isGenerator := false, isCoroutine := false, more := [] }
/-! the facts of the heap behind the top, as tables (printed by wip/gen/mkkf.py) -/
noncomputable def globTab : List (Str × Value) := [
  (Str.ofString "position_of", .ref 57),
  (Str.ofString "ToolError", .ref 82),
  (Str.ofString "RegexError", .ref 95),
  (Str.ofString "Cursor", .ref 222),
  (Str.ofString "Position", .ref 46),
  (Str.ofString "CharSet", .ref 442),
  (Str.ofString "Chars", .ref 543),
  (Str.ofString "Pair", .ref 576),
  (Str.ofString "Loop", .ref 633),
  (Str.ofString "Cat", .ref 588),
  (Str.ofString "Alt", .ref 600),
  (Str.ofString "Star", .ref 645),
  (Str.ofString "Plus", .ref 657),
  (Str.ofString "Opt", .ref 669),
  (Str.ofString "Empty", .ref 505),
  (Str.ofString "Never", .ref 517),
  (Str.ofString "Repeat", .ref 695),
  (Str.ofString "Pattern", .ref 762),
  (Str.ofString "RegexReader", .ref 907),
  (Str.ofString "spine", .ref 704),
  (Str.ofString "bracket_levels", .ref 710),
  (Str.ofString "cat_all", .ref 717),
  (Str.ofString "read_regex", .ref 919),
  (Str.ofString "read_pattern", .ref 927),
  (Str.ofString "show_sign", .ref 934),
  (Str.ofString "show_chars", .ref 941),
  (Str.ofString "show_loop", .ref 955),
  (Str.ofString "show_at", .ref 960),
  (Str.ofString "show_regex", .ref 967),
  (Str.ofString "show_pattern", .ref 974),
  (Str.ofString "escaped_sign", .ref 240),
  (Str.ofString "_law_vial", .ref 979),
  (Str.ofString "_law_drop", .ref 986),
  (Str.ofString "_law_sign", .ref 993),
  (Str.ofString "_law_base", .ref 1000),
  (Str.ofString "_law_row", .ref 1007),
  (Str.ofString "_law_needed", .ref 1012),
  (Str.ofString "_law_heard", .ref 1019),
  (Str.ofString "_law_looped", .ref 1026),
  (Str.ofString "_law_wrapped", .ref 1033),
  (Str.ofString "_law_is_flat", .ref 1040),
  (Str.ofString "_law_depth", .ref 1047),
  (Str.ofString "_law_pattern", .ref 1054),
  (Str.ofString "FIGURES", .str (Str.ofString "0123456789") 201),
  (Str.ofString "NAME_SIGNS", .str (Str.ofString "abcdefghijklmnopqrstuvwxyzABCDEFGHIJKLMNOPQRSTUVWXYZ_0123456789") 205),
  (Str.ofString "TOP", .int 127 521),
  (Str.ofString "MOST_NESTED", .int 20 886),
  (Str.ofString "LOOSE", .int 0 888),
  (Str.ofString "ROW", .int 1 890),
  (Str.ofString "TIGHT", .int 2 892),
  (Str.ofString "BLANKS", .str (Str.ofString " \t\n") 894),
  (Str.ofString "STRAY_SIGNS", .str (Str.ofString "*+?]}^$/ \t\n") 896),
  (Str.ofString "NEWLINE", .str (Str.ofString "\n") 898),
  (Str.ofString "MARKS", .str (Str.ofString "\"[](){}.*+?|^$/<%") 1530),
  (Str.ofString "PLAIN_ESCAPES", .ref 22),
  (Str.ofString "OCTAL_SIGNS", .str (Str.ofString "01234567") 210)]
noncomputable def noGlob : List Str := [Str.ofString "abs", Str.ofString "int", Str.ofString "sum", Str.ofString "len", Str.ofString "max", Str.ofString "min", Str.ofString "ord", Str.ofString "chr", Str.ofString "isinstance", Str.ofString "range", Str.ofString "sorted", Str.ofString "tuple", Str.ofString "str", Str.ofString "Exception"]
noncomputable def clsTab : List Addr := [46, 222, 442, 491, 505, 543, 588, 600, 645, 657, 669, 762, 907]
noncomputable def instTab : List (Addr × Str) := [
  (46, Str.ofString "offset"), (46, Str.ofString "line"), (46, Str.ofString "column"),
  (222, Str.ofString "text"), (222, Str.ofString "at"),
  (442, Str.ofString "spans"),
  (543, Str.ofString "charset"),
  (588, Str.ofString "left"), (588, Str.ofString "right"),
  (600, Str.ofString "left"), (600, Str.ofString "right"),
  (645, Str.ofString "body"),
  (657, Str.ofString "body"),
  (669, Str.ofString "body"),
  (762, Str.ofString "body"), (762, Str.ofString "begins"), (762, Str.ofString "trail"),
  (907, Str.ofString "cursor"), (907, Str.ofString "definitions"), (907, Str.ofString "is_pattern"), (907, Str.ofString "depth")]
noncomputable def methTab : List ((Addr × Str) × Addr) := [
  ((46, Str.ofString "__init__"), 36),
  ((222, Str.ofString "__init__"), 112),
  ((222, Str.ofString "is_done"), 119),
  ((222, Str.ofString "peek"), 127),
  ((222, Str.ofString "starts"), 134),
  ((222, Str.ofString "take"), 141),
  ((222, Str.ofString "skip"), 148),
  ((222, Str.ofString "take_while"), 155),
  ((222, Str.ofString "name"), 177),
  ((222, Str.ofString "quoted"), 219),
  ((442, Str.ofString "__init__"), 290),
  ((442, Str.ofString "size"), 362),
  ((442, Str.ofString "least"), 376),
  ((442, Str.ofString "same"), 418),
  ((442, Str.ofString "key"), 439),
  ((491, Str.ofString "told"), 488),
  ((505, Str.ofString "told"), 488),
  ((543, Str.ofString "__init__"), 533),
  ((543, Str.ofString "told"), 540),
  ((588, Str.ofString "__init__"), 559),
  ((588, Str.ofString "told"), 573),
  ((600, Str.ofString "__init__"), 559),
  ((600, Str.ofString "told"), 573),
  ((645, Str.ofString "__init__"), 616),
  ((645, Str.ofString "told"), 630),
  ((657, Str.ofString "__init__"), 616),
  ((657, Str.ofString "told"), 630),
  ((669, Str.ofString "__init__"), 616),
  ((669, Str.ofString "told"), 630),
  ((762, Str.ofString "__init__"), 738),
  ((762, Str.ofString "told"), 759),
  ((907, Str.ofString "__init__"), 794),
  ((907, Str.ofString "failed"), 801),
  ((907, Str.ofString "is_over"), 808),
  ((907, Str.ofString "is_stop"), 815),
  ((907, Str.ofString "choice"), 822),
  ((907, Str.ofString "branch"), 829),
  ((907, Str.ofString "looped"), 836),
  ((907, Str.ofString "single"), 857),
  ((907, Str.ofString "code_of"), 864),
  ((907, Str.ofString "quoted"), 869),
  ((907, Str.ofString "defined"), 876)]
noncomputable def constTab : List ((Addr × Str) × Value) := [
  ((505, Str.ofString "name"), .str (Str.ofString "empty") 948),
  ((543, Str.ofString "name"), .str (Str.ofString "chars") 984),
  ((588, Str.ofString "name"), .str (Str.ofString "cat") 1062),
  ((600, Str.ofString "name"), .str (Str.ofString "alt") 1080),
  ((645, Str.ofString "name"), .str (Str.ofString "star") 1137),
  ((657, Str.ofString "name"), .str (Str.ofString "plus") 1155),
  ((669, Str.ofString "name"), .str (Str.ofString "opt") 1173)]
noncomputable def statTab : List ((Addr × Str) × (Addr × Addr)) := [
  ((442, Str.ofString "dot"), (319, 317)),
  ((442, Str.ofString "of"), (327, 325)),
  ((442, Str.ofString "span"), (337, 335)),
  ((442, Str.ofString "made"), (347, 345))]
noncomputable def fnList : List Addr := [36, 57, 72, 112, 119, 127, 134, 141, 148, 155, 177, 219, 240, 290, 317, 325, 335, 345, 362, 376, 418, 439, 488, 533, 540, 559, 573, 616, 630, 704, 710, 717, 738, 759, 794, 801, 808, 815, 822, 829, 836, 857, 864, 869, 876, 919, 927, 934, 941, 955, 960, 967, 974, 979, 986, 993, 1000, 1007, 1012, 1019, 1026, 1033, 1040, 1047, 1054, 1061]
noncomputable def dfltTab : List (Addr × Array Value) := [(65, #[.none]), (105, #[.int 0 354]), (120, #[.int 0 371]), (705, #[.int 0 888]), (912, #[.none]), (920, #[.none])]
noncomputable abbrev bmX : List Value := [.ref 82, .type "Exception", .type "BaseException", .type "object"]
/-! the heap facts as one look -/
noncomputable def fnTab : List (Addr × Stmt × Str × Value) := [
  (36, clsS 10 0, Str.ofString "Position.__init__", .none),
  (57, topS 11, Str.ofString "position_of", .none),
  (72, clsS 12 0, Str.ofString "ToolError.__init__", .ref 65),
  (112, clsS 14 0, Str.ofString "Cursor.__init__", .ref 105),
  (119, clsS 14 1, Str.ofString "Cursor.is_done", .none),
  (127, clsS 14 2, Str.ofString "Cursor.peek", .ref 120),
  (134, clsS 14 3, Str.ofString "Cursor.starts", .none),
  (141, clsS 14 4, Str.ofString "Cursor.take", .none),
  (148, clsS 14 5, Str.ofString "Cursor.skip", .none),
  (155, clsS 14 6, Str.ofString "Cursor.take_while", .none),
  (177, clsS 14 9, Str.ofString "Cursor.name", .none),
  (219, clsS 14 15, Str.ofString "Cursor.quoted", .none),
  (240, topS 16, Str.ofString "escaped_sign", .none),
  (290, clsS 22 0, Str.ofString "CharSet.__init__", .none),
  (317, clsS 22 3, Str.ofString "CharSet.dot", .none),
  (325, clsS 22 4, Str.ofString "CharSet.of", .none),
  (335, clsS 22 5, Str.ofString "CharSet.span", .none),
  (345, clsS 22 6, Str.ofString "CharSet.made", .none),
  (362, clsS 22 8, Str.ofString "CharSet.size", .none),
  (376, clsS 22 10, Str.ofString "CharSet.least", .none),
  (418, clsS 22 16, Str.ofString "CharSet.same", .none),
  (439, clsS 22 19, Str.ofString "CharSet.key", .none),
  (488, clsS 35 2, Str.ofString "Node.told", .none),
  (533, clsS 38 1, Str.ofString "Chars.__init__", .none),
  (540, clsS 38 2, Str.ofString "Chars.told", .none),
  (559, clsS 39 0, Str.ofString "Pair.__init__", .none),
  (573, clsS 39 2, Str.ofString "Pair.told", .none),
  (616, clsS 42 0, Str.ofString "Loop.__init__", .none),
  (630, clsS 42 2, Str.ofString "Loop.told", .none),
  (704, topS 47, Str.ofString "spine", .none),
  (710, topS 48, Str.ofString "bracket_levels", .ref 705),
  (717, topS 49, Str.ofString "cat_all", .none),
  (738, clsS 51 0, Str.ofString "Pattern.__init__", .none),
  (759, clsS 51 3, Str.ofString "Pattern.told", .none),
  (794, clsS 54 0, Str.ofString "RegexReader.__init__", .none),
  (801, clsS 54 1, Str.ofString "RegexReader.failed", .none),
  (808, clsS 54 2, Str.ofString "RegexReader.is_over", .none),
  (815, clsS 54 3, Str.ofString "RegexReader.is_stop", .none),
  (822, clsS 54 4, Str.ofString "RegexReader.choice", .none),
  (829, clsS 54 5, Str.ofString "RegexReader.branch", .none),
  (836, clsS 54 6, Str.ofString "RegexReader.looped", .none),
  (857, clsS 54 9, Str.ofString "RegexReader.single", .none),
  (864, clsS 54 10, Str.ofString "RegexReader.code_of", .none),
  (869, clsS 54 11, Str.ofString "RegexReader.quoted", .none),
  (876, clsS 54 12, Str.ofString "RegexReader.defined", .none),
  (919, topS 55, Str.ofString "read_regex", .ref 912),
  (927, topS 56, Str.ofString "read_pattern", .ref 920),
  (934, topS 59, Str.ofString "show_sign", .none),
  (941, topS 60, Str.ofString "show_chars", .none),
  (955, topS 62, Str.ofString "show_loop", .none),
  (960, topS 63, Str.ofString "show_at", .none),
  (967, topS 64, Str.ofString "show_regex", .none),
  (974, topS 65, Str.ofString "show_pattern", .none),
  (979, topS 67, Str.ofString "_law_vial", .none),
  (986, topS 68, Str.ofString "_law_drop", .none),
  (993, topS 69, Str.ofString "_law_sign", .none),
  (1000, topS 70, Str.ofString "_law_base", .none),
  (1007, topS 71, Str.ofString "_law_row", .none),
  (1012, topS 72, Str.ofString "_law_needed", .none),
  (1019, topS 73, Str.ofString "_law_heard", .none),
  (1026, topS 74, Str.ofString "_law_looped", .none),
  (1033, topS 75, Str.ofString "_law_wrapped", .none),
  (1040, topS 76, Str.ofString "_law_is_flat", .none),
  (1047, topS 77, Str.ofString "_law_depth", .none),
  (1054, topS 78, Str.ofString "_law_pattern", .none),
  (1061, topS 79, Str.ofString "law", .none)]
noncomputable def parts3 (K : Frag) (f : Addr) : Option (Arguments × FuncBody × Scope) := match K.lookup f with
  | some ⟨_, _, .func fd, _⟩ => some (fd.params, fd.body, fd.scope)
  | _ => none
noncomputable def shellB (K : Frag) (f : Addr) (q : Str) (dV : Value) : Bool := match K.lookup f with
  | some ⟨_, _, .func fd, _⟩ => fd.qualname == q && fd.globals == mainGlobals && fd.closure.isEmpty && fd.defaults == dV && fd.kwdefaults == .none && fd.builtins == builtinsNs && codeIn K fd.code q && keepIn K (.ref f) && isFn K (.ref f)
  | _ => false
noncomputable def clsB (K : Frag) (C : Addr) : Bool := findIn K (.ref C) "__getattribute__" == some (some (.builtin "object.__getattribute__")) && findIn K (.ref C) "__getattr__" == some none && hasDictIn K C && findIn K (.ref C) "__setattr__" == some (some (.builtin "object.__setattr__")) && plainOver K C && makesIn K C && keepIn K (.ref C) && subIn K (.ref C) (.type "int") == some false &&
  findIn K (.ref C) "__class__" == some (some (.builtin "object.__class__")) && mroIn K C (.type "object") == some true
noncomputable def statB (K : Frag) (C : Addr) (n : Str) (s f : Addr) : Bool := (match findCls K (.ref C) (.type "type") n with
    | some (.get g a o t) => g == .builtin "staticmethod.__get__" && a == .ref s && o == .none && t == .ref C
    | _ => false) && (recIn K s "staticmethod").bind (·.head?) == some (.ref f) && readsIn K C (.type "type") && specialIn K (.ref C) "__getattribute__" == some (some (.builtin "type.__getattribute__"))
noncomputable def excB (K : Frag) : Bool := match K.lookup 95 with
  | some ⟨oc, _, .cls cd, sl⟩ => oc == .type "type" && cd.mro == .ref 95 :: bmX && cd.hasDict && !cd.hasDel && (match sl.toList with
      | [_, _, _, _, e, _] => e == some (.builtin "Exception.__new__")
      | _ => false)
  | _ => false
noncomputable def seqB (K : Frag) (a : Addr) (vs : Array Value) : Bool := match K.lookup a with
  | some ⟨_, _, .seq ys n, _⟩ => ys.toList == vs.toList && n == 0
  | _ => false
noncomputable def xB (K : Frag) : Bool :=
  findIn K (.ref 95) "__init__" == some (some (.ref 72)) && findIn K (.ref 95) "__setattr__" == some (some (.builtin "object.__setattr__")) && findIn K (.ref 95) "__getattribute__" == some (some (.builtin "BaseException.__getattribute__")) && findIn K (.ref 95) "__getattr__" == some none &&
  findIn K (.ref 95) (Str.ofString "what") == some none && findIn K (.ref 95) (Str.ofString "at") == some none && specialIn K (.ref 95) "__call__" == some (some (.builtin "type.__call__")) && typeIn K (.ref 95) == some (.type "type") && instIn K (.ref 95) (.type "type") == some true &&
  exmOne K (.ref 95) (.ref 95) == some true && keepIn K (.ref 95) && (match findCls K (.type "Exception") (.type "type") "__init__" with | some (.val v) => v == .builtin "Exception.__init__" | _ => false) &&
  findIn K (.type "type") "__getattribute__" == some (some (.builtin "type.__getattribute__")) &&
  (if onTheHeap (.type "type") then findIn K (.type "type") "__getattr__" else some none) == some none && subIn K (.type "type") (.type "type") == some true
noncomputable def factL (K : Frag) : List Bool := [
  globTab.all (fun p => nsIn K mainGlobals p.1 == some (some p.2)),
  noGlob.all (fun x => nsIn K mainGlobals x == some none),
  clsTab.all (clsB K),
  instTab.all (fun p => findIn K (.ref p.1) p.2 == some none && takerIn K p.1 p.2 == some none),
  methTab.all (fun p => findIn K (.ref p.1.1) p.1.2 == some (some (.ref p.2))),
  constTab.all (fun p => findIn K (.ref p.1.1) p.1.2 == some (some p.2) && specialIn K p.2 "__get__" == some none),
  statTab.all (fun p => statB K p.1.1 p.1.2 p.2.1 p.2.2),
  fnList.all (fun f => keepIn K (.ref f) && isFn K (.ref f)),
  dfltTab.all (fun p => seqB K p.1 p.2),
  fnTab.all (fun p => shellB K p.1 p.2.2.1 p.2.2.2),
  findIn K (.ref 505) (Str.ofString "__init__") == some (some (.builtin "object.__init__")),
  [645, 657, 669].all (fun C => isIn K (.ref C) 633),
  [505, 543, 588, 600].all (fun C => subIn K (.ref C) (.ref 633) == some false),
  (clsIn K 633).isSome && typeIn K (.ref 633) == some (.type "type") && instIn K (.ref 633) (.type "type") == some true,
  specialIn K (.builtin "object.__class__") "__get__" == some (some (.builtin "getset_descriptor.__get__")) && takesIn K (.builtin "object.__class__") == some true && typeIn K (.type "int") == none,
  excB K, xB K,
  nsIn K mainGlobals (Str.ofString "law") == some (some (.ref 1061))]
noncomputable def factB (K : Frag) : Bool := (factL K).all id
noncomputable def fnsOf (K : Frag) : List (Option (Arguments × FuncBody × Scope)) := fnTab.map fun p => parts3 K p.1
noncomputable def fnsGood : List (Option (Arguments × FuncBody × Scope)) := fnTab.map fun p => some (fdP p.2.1, .stmts (fdB p.2.1), fdS p.2.1)

noncomputable def fragOf (h : Heap) : List Addr → Frag
  | [] => []
  | a :: r => match h.get? a with
    | some o => (a, o) :: fragOf h r
    | none => fragOf h r
noncomputable def getT (T : BT) (n a : Nat) : Option Obj := match Nat.blt a n with
  | true => (match (T.get a).getD default with
    | ⟨_, _, .freed, _⟩ => none
    | o => some o)
  | false => none
theorem getT_eq (T : BT) (n : Nat) (life : Life) (a : Nat) : (absHeap T n life).get? a = getT T n a := by
  unfold Heap.get? getT
  rw [absHeap_at]
  by_cases h : a < n
  · rw [if_pos h, show Nat.blt a n = true from Nat.ble_eq.mpr h]
    dsimp only
    generalize (T.get a).getD default = o
    obtain ⟨c, d, x, sl⟩ := o
    cases x <;> rfl
  · rw [if_neg h, show Nat.blt a n = false from by
      cases e : Nat.blt a n with
      | false => rfl
      | true => exact absurd (Nat.ble_eq.mp e) h]
noncomputable def fragT (T : BT) (n : Nat) : List Addr → Frag
  | [] => []
  | a :: r => match getT T n a with
    | some o => (a, o) :: fragT T n r
    | none => fragT T n r
theorem fragT_eq (T : BT) (n : Nat) (life : Life) : ∀ as : List Addr, fragOf (absHeap T n life) as = fragT T n as
  | [] => rfl
  | a :: r => by
    unfold fragOf fragT
    rw [getT_eq, fragT_eq T n life r]
theorem fragOf_in {h : Heap} : ∀ as : List Addr, (fragOf h as).In h
  | [], a, o, e => by cases e
  | a' :: r, a, o, e => by
    unfold fragOf at e
    split at e
    · rename_i o' eo
      simp only [List.lookup] at e
      split at e
      · rename_i q; cases e; rw [beq_iff_eq.mp q]; exact eo
      · exact fragOf_in r a o e
    · exact fragOf_in r a o e
noncomputable def needs : List Addr := [2, 3, 35, 36, 45, 46, 56, 57, 65, 71, 72, 81, 82, 94, 95, 105, 111, 112, 118, 119, 120, 126, 127, 133, 134, 140, 141, 147, 148, 154, 155, 176, 177, 218, 219, 221, 222, 239, 240, 289, 290, 316, 317, 319, 324, 325, 327, 334, 335, 337, 344, 345, 347, 361, 362, 375, 376, 417, 418, 438, 439, 441, 442, 487, 488, 490, 491, 504, 505, 532, 533, 539, 540, 542, 543, 558, 559, 572, 573, 575, 576, 587, 588, 599, 600, 615, 616, 629, 630, 632, 633, 644, 645, 656, 657, 668, 669, 703, 704, 705, 709, 710, 716, 717, 737, 738, 758, 759, 761, 762, 793, 794, 800, 801, 807, 808, 814, 815, 821, 822, 828, 829, 835, 836, 856, 857, 863, 864, 868, 869, 875, 876, 906, 907, 912, 918, 919, 920, 926, 927, 933, 934, 940, 941, 954, 955, 959, 960, 966, 967, 973, 974, 978, 979, 985, 986, 992, 993, 999, 1000, 1006, 1007, 1011, 1012, 1018, 1019, 1025, 1026, 1032, 1033, 1039, 1040, 1046, 1047, 1053, 1054, 1060, 1061]
noncomputable def hookF (s : Shared) : Bool × List (Option (Arguments × FuncBody × Scope)) := (factB (fragOf s.heap needs), fnsOf (fragOf s.heap needs))
noncomputable def hookT (s : SharedT) : Bool × List (Option (Arguments × FuncBody × Scope)) := (factB (fragT s.tree s.n needs), fnsOf (fragT s.tree s.n needs))
theorem hookT_eq (s : SharedT) : hookF s.abs = hookT s := by
  unfold hookF hookT
  rw [show s.abs.heap = absHeap s.tree s.n s.life from rfl, fragT_eq]
noncomputable def hookA (w : World) : Bool × List (Option (Arguments × FuncBody × Scope)) := (true, fnsGood)
noncomputable def hookP (w : World) (h : Heap) : Prop := ∃ K : Frag, K.In h ∧ factB K = true ∧ fnsOf K = fnsGood
theorem hook_of (w : World) (s : Shared) (e : hookF s = hookA w) : hookP w s.heap := ⟨_, fragOf_in needs, (Prod.mk.injEq .. ▸ e : _ ∧ _).1, (Prod.mk.injEq .. ▸ e : _ ∧ _).2⟩
theorem hook_keeps (w : World) (h h' : Heap) (y : hookP w h) (k : ∀ b o, h.get? b = some o → h'.get? b = some o) : hookP w h' := let ⟨K, a, b⟩ := y; ⟨K, a.keeps k, b⟩
end Mine
end
section
open PySem PySem.W PySem.Calls PyProof.Rows
namespace Mine

/-! the head: one run of the top over trees -/
noncomputable def insAll : List Obj → Nat → BT → BT
  | [], _, t => t
  | o :: r, n, t => insAll r (n + 1) (t.ins n o)
noncomputable def topT (stp : SharedT → Thread → Option (SharedT × Thread)) (ok : Thread → Bool) : Nat → SharedT → Thread → Option SharedT
  | 0, _, _ => none
  | n + 1, s, t => match through t with
    | true => some s
    | false => match ok t with
      | false => none
      | true => match stp s t with
        | some r => topT stp ok n r.1 r.2
        | none => none
theorem topT_spec {tb : String → Option Builtin} {p : Program} {w : World} {n₀ : Nat} {ann : Option Value} : ∀ {n : Nat} {s s' : SharedT} {t : Thread},
    topT (stepT (denote tb) p w) (stepOk n₀ ann) n s t = some s' → topRun tb p w n₀ ann n s.abs t = some s'.abs
  | 0, _, _, _, h => by cases h
  | n + 1, s, s', t, h => by
    unfold topT at h
    unfold topRun
    cases ht : through t with
    | true => rw [ht] at h; cases h; rfl
    | false =>
      rw [ht] at h
      cases hk : stepOk n₀ ann t with
      | false => rw [hk] at h; cases h
      | true =>
        rw [hk] at h
        cases hs : stepT (denote tb) p w s t with
        | none => rw [hs] at h; cases h
        | some r => obtain ⟨s₂, t₂⟩ := r; rw [hs] at h; rw [stepT_spec hs]; exact topT_spec h

noncomputable def bootT (P : Params) (os : OsState) : SharedT := ⟨insAll (boot_heap P).objs.toList 0 .nil, (boot_heap P).objs.size, (boot_heap P).life, #[], boot_drawn, boot_toks, os⟩
theorem bootT_abs (P : Params) (os : OsState) : (bootT P os).abs = ⟨boot_heap P, #[], boot_drawn, boot_toks, os⟩ := by kernel_rfl

noncomputable def looksAll {α : Type} (p q : Program) (loose : List Str) (h₀ : Heap) (y : α) (s : Shared) :=
  ((staticsOk (importedModules p.main.body) h₀ s.heap && namesBound p s.heap && gensDone s && laidKept h₀ s.heap), openSeen q loose (importedModules p.main.body) (fun _ => true) true s, y)

theorem left_of {p q : Program} {loose : List Str} {α : Type} {Yf : Shared → α} {Yt : SharedT → α} {Ya : World → α} {N n₀ : Nat} {ann : Option Value} (yt : ∀ s : SharedT, Yf s.abs = Yt s)
    (op : ∀ w : World, (fencedOpening treeTable p w N).map (fun s => (s.heap, s.gens, s.drawn, s.toks)) = some (boot_heap w.params, Array.mk [], boot_drawn, boot_toks))
    (sz : ∀ w : World, ((boot_heap w.params).isNs mainGlobals, (boot_heap w.params).objs.size, (boot_heap w.params).nsMap mainGlobals "__annotations__") = (true, n₀, ann))
    (run : ∀ (w : World) (os : OsState), (topT (stepT (denote treeTable) p w) (stepOk n₀ ann) N (bootT w.params os) (topStub p)).map (fun s => looksAll p q loose (boot_heap w.params) (Yt s) s.abs) = some (true, openGood q loose, Ya w)) :
    LeftO p q loose (fun _ => true) Yf Ya N true := fun w => by
  obtain ⟨⟨h, gs, d, k, os⟩, e, e'⟩ := Option.map_eq_some_iff.mp (op w)
  obtain ⟨rfl, rfl, rfl, rfl⟩ : h = boot_heap w.params ∧ gs = Array.mk [] ∧ d = boot_drawn ∧ k = boot_toks := by simpa using e'
  obtain ⟨z1, z2, z3⟩ : _ ∧ _ ∧ _ := by simpa only [Prod.mk.injEq] using sz w
  obtain ⟨sT, r, l⟩ := Option.map_eq_some_iff.mp (run w os)
  have r' := topT_spec r
  rw [bootT_abs] at r'
  unfold looksAll at l
  obtain ⟨l1, l2, l3⟩ : _ ∧ _ ∧ _ := by simpa only [Prod.mk.injEq] using l
  have t : topFrom treeTable p w N ⟨boot_heap w.params, #[], boot_drawn, boot_toks, os⟩ = some sT.abs := by
    unfold topFrom
    dsimp only
    rw [z1, z2, z3, r']
    show (match staticsOk (importedModules p.main.body) (boot_heap w.params) sT.abs.heap && namesBound p sT.abs.heap && gensDone sT.abs && laidKept (boot_heap w.params) sT.abs.heap with | true => _ | false => _) = _
    rw [l1]
  unfold openEnds
  rw [e]
  show (topFrom treeTable p w N _).map _ = _
  rw [t]
  exact congrArg some (Prod.ext l2 ((yt sT).trans l3))

theorem boot_op (N : Nat) (hN : Nat.ble 600 N = true) : ∀ w : World, (fencedOpening treeTable pw w N).map (fun s => (s.heap, s.gens, s.drawn, s.toks)) = some (boot_heap w.params, Array.mk [], boot_drawn, boot_toks) :=
  boot_open (by kernel_rfl) hN (fun s => by kernel_rfl)
theorem boot_sz : ∀ w : World, ((boot_heap w.params).isNs mainGlobals, (boot_heap w.params).objs.size, (boot_heap w.params).nsMap mainGlobals "__annotations__") = (true, 11, some (.ref 6)) := fun w => by kernel_rfl

theorem fast_step (w : World) : stepT (denote treeTable) pw w = PySem.W.Fast.tw10156331382660048174 (PySem.W.Fast.tw11892475500146522536 PySem.W.Fast.tw14364793385576792824) pw w := by
  rw [PySem.W.Fast.te10156331382660048174, PySem.W.Fast.te11892475500146522536, PySem.W.Fast.te14364793385576792824]
theorem fast_ok : @stepOk = PySem.W.Fast.tw6613529449190102663 := PySem.W.Fast.te6613529449190102663
end Mine
end
section
open PySem PySem.W PySem.Calls PyProof.Rows
set_option maxHeartbeats 0
namespace Mine
noncomputable def q0 : Program := view pw [79]
noncomputable def looseN : List Str := (pw.boundNames).filter (fun n => n != Str.ofString "law")
theorem runT (w : World) (os : OsState) : (topT (stepT (denote treeTable) pw (w.withFollow "special-get-raises" true)) (stepOk 11 (some (.ref 6))) 9300 (bootT (w.withFollow "special-get-raises" true).params os) (topStub pw)).map (fun s => looksAll pw q0 looseN (boot_heap (w.withFollow "special-get-raises" true).params) (hookT s) s.abs) = some (true, openGood q0 looseN, hookA w) := by
  rw [fast_ok, fast_step]
  kernel_rfl
theorem runF (w : World) (os : OsState) : (topT (stepT (denote treeTable) pw (w.withFollow "special-get-raises" false)) (stepOk 11 (some (.ref 6))) 9300 (bootT (w.withFollow "special-get-raises" false).params os) (topStub pw)).map (fun s => looksAll pw q0 looseN (boot_heap (w.withFollow "special-get-raises" false).params) (hookT s) s.abs) = some (true, openGood q0 looseN, hookA w) := by
  rw [fast_ok, fast_step]
  kernel_rfl
theorem theRun (w : World) (os : OsState) : (topT (stepT (denote treeTable) pw w) (stepOk 11 (some (.ref 6))) 9300 (bootT w.params os) (topStub pw)).map (fun s => looksAll pw q0 looseN (boot_heap w.params) (hookT s) s.abs) = some (true, openGood q0 looseN, hookA w) := by
  have h : ∀ b : Bool, (topT (stepT (denote treeTable) pw (w.withFollow "special-get-raises" b)) (stepOk 11 (some (.ref 6))) 9300 (bootT (w.withFollow "special-get-raises" b).params os) (topStub pw)).map (fun s => looksAll pw q0 looseN (boot_heap (w.withFollow "special-get-raises" b).params) (hookT s) s.abs) = some (true, openGood q0 looseN, hookA w) := fun b => match b with
    | true => runT w os
    | false => runF w os
  have e := h (w.params.followText "special-get-raises")
  rwa [World.withFollow_self] at e
theorem left_law : LeftO pw q0 looseN (fun _ => true) hookF hookA 9300 true := left_of hookT_eq (boot_op 9300 (by decide +kernel)) boot_sz theRun
end Mine
end
/-! long facts taken apart and laid together in one step -/
namespace Mine
theorem e0x2 {p0 p1 : Prop} {g : Prop} (h : p0 ∧ p1) (k : p0 → p1 → g) : g := k h.1 h.2
theorem e0x3 {p0 p1 p2 : Prop} {g : Prop} (h : p0 ∧ p1 ∧ p2) (k : p0 → p1 → p2 → g) : g := e0x2 h.2 (k h.1)
theorem e0x4 {p0 p1 p2 p3 : Prop} {g : Prop} (h : p0 ∧ p1 ∧ p2 ∧ p3) (k : p0 → p1 → p2 → p3 → g) : g := e0x3 h.2 (k h.1)
theorem e0x5 {p0 p1 p2 p3 p4 : Prop} {g : Prop} (h : p0 ∧ p1 ∧ p2 ∧ p3 ∧ p4) (k : p0 → p1 → p2 → p3 → p4 → g) : g := e0x4 h.2 (k h.1)
theorem e0x6 {p0 p1 p2 p3 p4 p5 : Prop} {g : Prop} (h : p0 ∧ p1 ∧ p2 ∧ p3 ∧ p4 ∧ p5) (k : p0 → p1 → p2 → p3 → p4 → p5 → g) : g := e0x5 h.2 (k h.1)
theorem e0x7 {p0 p1 p2 p3 p4 p5 p6 : Prop} {g : Prop} (h : p0 ∧ p1 ∧ p2 ∧ p3 ∧ p4 ∧ p5 ∧ p6) (k : p0 → p1 → p2 → p3 → p4 → p5 → p6 → g) : g := e0x6 h.2 (k h.1)
theorem e0x8 {p0 p1 p2 p3 p4 p5 p6 p7 : Prop} {g : Prop} (h : p0 ∧ p1 ∧ p2 ∧ p3 ∧ p4 ∧ p5 ∧ p6 ∧ p7) (k : p0 → p1 → p2 → p3 → p4 → p5 → p6 → p7 → g) : g := e0x7 h.2 (k h.1)
theorem e0x9 {p0 p1 p2 p3 p4 p5 p6 p7 p8 : Prop} {g : Prop} (h : p0 ∧ p1 ∧ p2 ∧ p3 ∧ p4 ∧ p5 ∧ p6 ∧ p7 ∧ p8) (k : p0 → p1 → p2 → p3 → p4 → p5 → p6 → p7 → p8 → g) : g := e0x8 h.2 (k h.1)
theorem e1x1 {t0 : Type} {p0 : t0 → Prop} {g : Prop} (h : ∃ a0, p0 a0) (k : ∀ a0, p0 a0 → g) : g := h.elim k
theorem e1x2 {t0 : Type} {p0 p1 : t0 → Prop} {g : Prop} (h : ∃ a0, p0 a0 ∧ p1 a0) (k : ∀ a0, p0 a0 → p1 a0 → g) : g := h.elim fun a0 h => e0x2 h (k a0)
theorem e1x3 {t0 : Type} {p0 p1 p2 : t0 → Prop} {g : Prop} (h : ∃ a0, p0 a0 ∧ p1 a0 ∧ p2 a0) (k : ∀ a0, p0 a0 → p1 a0 → p2 a0 → g) : g := h.elim fun a0 h => e0x3 h (k a0)
theorem e1x4 {t0 : Type} {p0 p1 p2 p3 : t0 → Prop} {g : Prop} (h : ∃ a0, p0 a0 ∧ p1 a0 ∧ p2 a0 ∧ p3 a0) (k : ∀ a0, p0 a0 → p1 a0 → p2 a0 → p3 a0 → g) : g := h.elim fun a0 h => e0x4 h (k a0)
theorem e1x5 {t0 : Type} {p0 p1 p2 p3 p4 : t0 → Prop} {g : Prop} (h : ∃ a0, p0 a0 ∧ p1 a0 ∧ p2 a0 ∧ p3 a0 ∧ p4 a0) (k : ∀ a0, p0 a0 → p1 a0 → p2 a0 → p3 a0 → p4 a0 → g) : g := h.elim fun a0 h => e0x5 h (k a0)
theorem e1x6 {t0 : Type} {p0 p1 p2 p3 p4 p5 : t0 → Prop} {g : Prop} (h : ∃ a0, p0 a0 ∧ p1 a0 ∧ p2 a0 ∧ p3 a0 ∧ p4 a0 ∧ p5 a0) (k : ∀ a0, p0 a0 → p1 a0 → p2 a0 → p3 a0 → p4 a0 → p5 a0 → g) : g := h.elim fun a0 h => e0x6 h (k a0)
theorem e1x7 {t0 : Type} {p0 p1 p2 p3 p4 p5 p6 : t0 → Prop} {g : Prop} (h : ∃ a0, p0 a0 ∧ p1 a0 ∧ p2 a0 ∧ p3 a0 ∧ p4 a0 ∧ p5 a0 ∧ p6 a0) (k : ∀ a0, p0 a0 → p1 a0 → p2 a0 → p3 a0 → p4 a0 → p5 a0 → p6 a0 → g) : g := h.elim fun a0 h => e0x7 h (k a0)
theorem e1x8 {t0 : Type} {p0 p1 p2 p3 p4 p5 p6 p7 : t0 → Prop} {g : Prop} (h : ∃ a0, p0 a0 ∧ p1 a0 ∧ p2 a0 ∧ p3 a0 ∧ p4 a0 ∧ p5 a0 ∧ p6 a0 ∧ p7 a0) (k : ∀ a0, p0 a0 → p1 a0 → p2 a0 → p3 a0 → p4 a0 → p5 a0 → p6 a0 → p7 a0 → g) : g := h.elim fun a0 h => e0x8 h (k a0)
theorem e1x9 {t0 : Type} {p0 p1 p2 p3 p4 p5 p6 p7 p8 : t0 → Prop} {g : Prop} (h : ∃ a0, p0 a0 ∧ p1 a0 ∧ p2 a0 ∧ p3 a0 ∧ p4 a0 ∧ p5 a0 ∧ p6 a0 ∧ p7 a0 ∧ p8 a0) (k : ∀ a0, p0 a0 → p1 a0 → p2 a0 → p3 a0 → p4 a0 → p5 a0 → p6 a0 → p7 a0 → p8 a0 → g) : g := h.elim fun a0 h => e0x9 h (k a0)
theorem e2x1 {t0 t1 : Type} {p0 : t0 → t1 → Prop} {g : Prop} (h : ∃ a0 a1, p0 a0 a1) (k : ∀ a0 a1, p0 a0 a1 → g) : g := h.elim fun a0 h => e1x1 h (k a0)
theorem e2x2 {t0 t1 : Type} {p0 p1 : t0 → t1 → Prop} {g : Prop} (h : ∃ a0 a1, p0 a0 a1 ∧ p1 a0 a1) (k : ∀ a0 a1, p0 a0 a1 → p1 a0 a1 → g) : g := h.elim fun a0 h => e1x2 h (k a0)
theorem e2x3 {t0 t1 : Type} {p0 p1 p2 : t0 → t1 → Prop} {g : Prop} (h : ∃ a0 a1, p0 a0 a1 ∧ p1 a0 a1 ∧ p2 a0 a1) (k : ∀ a0 a1, p0 a0 a1 → p1 a0 a1 → p2 a0 a1 → g) : g := h.elim fun a0 h => e1x3 h (k a0)
theorem e2x4 {t0 t1 : Type} {p0 p1 p2 p3 : t0 → t1 → Prop} {g : Prop} (h : ∃ a0 a1, p0 a0 a1 ∧ p1 a0 a1 ∧ p2 a0 a1 ∧ p3 a0 a1) (k : ∀ a0 a1, p0 a0 a1 → p1 a0 a1 → p2 a0 a1 → p3 a0 a1 → g) : g := h.elim fun a0 h => e1x4 h (k a0)
theorem e2x5 {t0 t1 : Type} {p0 p1 p2 p3 p4 : t0 → t1 → Prop} {g : Prop} (h : ∃ a0 a1, p0 a0 a1 ∧ p1 a0 a1 ∧ p2 a0 a1 ∧ p3 a0 a1 ∧ p4 a0 a1) (k : ∀ a0 a1, p0 a0 a1 → p1 a0 a1 → p2 a0 a1 → p3 a0 a1 → p4 a0 a1 → g) : g := h.elim fun a0 h => e1x5 h (k a0)
theorem e2x6 {t0 t1 : Type} {p0 p1 p2 p3 p4 p5 : t0 → t1 → Prop} {g : Prop} (h : ∃ a0 a1, p0 a0 a1 ∧ p1 a0 a1 ∧ p2 a0 a1 ∧ p3 a0 a1 ∧ p4 a0 a1 ∧ p5 a0 a1) (k : ∀ a0 a1, p0 a0 a1 → p1 a0 a1 → p2 a0 a1 → p3 a0 a1 → p4 a0 a1 → p5 a0 a1 → g) : g := h.elim fun a0 h => e1x6 h (k a0)
theorem e2x7 {t0 t1 : Type} {p0 p1 p2 p3 p4 p5 p6 : t0 → t1 → Prop} {g : Prop} (h : ∃ a0 a1, p0 a0 a1 ∧ p1 a0 a1 ∧ p2 a0 a1 ∧ p3 a0 a1 ∧ p4 a0 a1 ∧ p5 a0 a1 ∧ p6 a0 a1) (k : ∀ a0 a1, p0 a0 a1 → p1 a0 a1 → p2 a0 a1 → p3 a0 a1 → p4 a0 a1 → p5 a0 a1 → p6 a0 a1 → g) : g := h.elim fun a0 h => e1x7 h (k a0)
theorem e2x8 {t0 t1 : Type} {p0 p1 p2 p3 p4 p5 p6 p7 : t0 → t1 → Prop} {g : Prop} (h : ∃ a0 a1, p0 a0 a1 ∧ p1 a0 a1 ∧ p2 a0 a1 ∧ p3 a0 a1 ∧ p4 a0 a1 ∧ p5 a0 a1 ∧ p6 a0 a1 ∧ p7 a0 a1) (k : ∀ a0 a1, p0 a0 a1 → p1 a0 a1 → p2 a0 a1 → p3 a0 a1 → p4 a0 a1 → p5 a0 a1 → p6 a0 a1 → p7 a0 a1 → g) : g := h.elim fun a0 h => e1x8 h (k a0)
theorem e2x9 {t0 t1 : Type} {p0 p1 p2 p3 p4 p5 p6 p7 p8 : t0 → t1 → Prop} {g : Prop} (h : ∃ a0 a1, p0 a0 a1 ∧ p1 a0 a1 ∧ p2 a0 a1 ∧ p3 a0 a1 ∧ p4 a0 a1 ∧ p5 a0 a1 ∧ p6 a0 a1 ∧ p7 a0 a1 ∧ p8 a0 a1) (k : ∀ a0 a1, p0 a0 a1 → p1 a0 a1 → p2 a0 a1 → p3 a0 a1 → p4 a0 a1 → p5 a0 a1 → p6 a0 a1 → p7 a0 a1 → p8 a0 a1 → g) : g := h.elim fun a0 h => e1x9 h (k a0)
theorem e3x1 {t0 t1 t2 : Type} {p0 : t0 → t1 → t2 → Prop} {g : Prop} (h : ∃ a0 a1 a2, p0 a0 a1 a2) (k : ∀ a0 a1 a2, p0 a0 a1 a2 → g) : g := h.elim fun a0 h => e2x1 h (k a0)
theorem e3x2 {t0 t1 t2 : Type} {p0 p1 : t0 → t1 → t2 → Prop} {g : Prop} (h : ∃ a0 a1 a2, p0 a0 a1 a2 ∧ p1 a0 a1 a2) (k : ∀ a0 a1 a2, p0 a0 a1 a2 → p1 a0 a1 a2 → g) : g := h.elim fun a0 h => e2x2 h (k a0)
theorem e3x3 {t0 t1 t2 : Type} {p0 p1 p2 : t0 → t1 → t2 → Prop} {g : Prop} (h : ∃ a0 a1 a2, p0 a0 a1 a2 ∧ p1 a0 a1 a2 ∧ p2 a0 a1 a2) (k : ∀ a0 a1 a2, p0 a0 a1 a2 → p1 a0 a1 a2 → p2 a0 a1 a2 → g) : g := h.elim fun a0 h => e2x3 h (k a0)
theorem e3x4 {t0 t1 t2 : Type} {p0 p1 p2 p3 : t0 → t1 → t2 → Prop} {g : Prop} (h : ∃ a0 a1 a2, p0 a0 a1 a2 ∧ p1 a0 a1 a2 ∧ p2 a0 a1 a2 ∧ p3 a0 a1 a2) (k : ∀ a0 a1 a2, p0 a0 a1 a2 → p1 a0 a1 a2 → p2 a0 a1 a2 → p3 a0 a1 a2 → g) : g := h.elim fun a0 h => e2x4 h (k a0)
theorem e3x5 {t0 t1 t2 : Type} {p0 p1 p2 p3 p4 : t0 → t1 → t2 → Prop} {g : Prop} (h : ∃ a0 a1 a2, p0 a0 a1 a2 ∧ p1 a0 a1 a2 ∧ p2 a0 a1 a2 ∧ p3 a0 a1 a2 ∧ p4 a0 a1 a2) (k : ∀ a0 a1 a2, p0 a0 a1 a2 → p1 a0 a1 a2 → p2 a0 a1 a2 → p3 a0 a1 a2 → p4 a0 a1 a2 → g) : g := h.elim fun a0 h => e2x5 h (k a0)
theorem e3x6 {t0 t1 t2 : Type} {p0 p1 p2 p3 p4 p5 : t0 → t1 → t2 → Prop} {g : Prop} (h : ∃ a0 a1 a2, p0 a0 a1 a2 ∧ p1 a0 a1 a2 ∧ p2 a0 a1 a2 ∧ p3 a0 a1 a2 ∧ p4 a0 a1 a2 ∧ p5 a0 a1 a2) (k : ∀ a0 a1 a2, p0 a0 a1 a2 → p1 a0 a1 a2 → p2 a0 a1 a2 → p3 a0 a1 a2 → p4 a0 a1 a2 → p5 a0 a1 a2 → g) : g := h.elim fun a0 h => e2x6 h (k a0)
theorem e3x7 {t0 t1 t2 : Type} {p0 p1 p2 p3 p4 p5 p6 : t0 → t1 → t2 → Prop} {g : Prop} (h : ∃ a0 a1 a2, p0 a0 a1 a2 ∧ p1 a0 a1 a2 ∧ p2 a0 a1 a2 ∧ p3 a0 a1 a2 ∧ p4 a0 a1 a2 ∧ p5 a0 a1 a2 ∧ p6 a0 a1 a2) (k : ∀ a0 a1 a2, p0 a0 a1 a2 → p1 a0 a1 a2 → p2 a0 a1 a2 → p3 a0 a1 a2 → p4 a0 a1 a2 → p5 a0 a1 a2 → p6 a0 a1 a2 → g) : g := h.elim fun a0 h => e2x7 h (k a0)
theorem e3x8 {t0 t1 t2 : Type} {p0 p1 p2 p3 p4 p5 p6 p7 : t0 → t1 → t2 → Prop} {g : Prop} (h : ∃ a0 a1 a2, p0 a0 a1 a2 ∧ p1 a0 a1 a2 ∧ p2 a0 a1 a2 ∧ p3 a0 a1 a2 ∧ p4 a0 a1 a2 ∧ p5 a0 a1 a2 ∧ p6 a0 a1 a2 ∧ p7 a0 a1 a2) (k : ∀ a0 a1 a2, p0 a0 a1 a2 → p1 a0 a1 a2 → p2 a0 a1 a2 → p3 a0 a1 a2 → p4 a0 a1 a2 → p5 a0 a1 a2 → p6 a0 a1 a2 → p7 a0 a1 a2 → g) : g := h.elim fun a0 h => e2x8 h (k a0)
theorem e3x9 {t0 t1 t2 : Type} {p0 p1 p2 p3 p4 p5 p6 p7 p8 : t0 → t1 → t2 → Prop} {g : Prop} (h : ∃ a0 a1 a2, p0 a0 a1 a2 ∧ p1 a0 a1 a2 ∧ p2 a0 a1 a2 ∧ p3 a0 a1 a2 ∧ p4 a0 a1 a2 ∧ p5 a0 a1 a2 ∧ p6 a0 a1 a2 ∧ p7 a0 a1 a2 ∧ p8 a0 a1 a2) (k : ∀ a0 a1 a2, p0 a0 a1 a2 → p1 a0 a1 a2 → p2 a0 a1 a2 → p3 a0 a1 a2 → p4 a0 a1 a2 → p5 a0 a1 a2 → p6 a0 a1 a2 → p7 a0 a1 a2 → p8 a0 a1 a2 → g) : g := h.elim fun a0 h => e2x9 h (k a0)
theorem e4x1 {t0 t1 t2 t3 : Type} {p0 : t0 → t1 → t2 → t3 → Prop} {g : Prop} (h : ∃ a0 a1 a2 a3, p0 a0 a1 a2 a3) (k : ∀ a0 a1 a2 a3, p0 a0 a1 a2 a3 → g) : g := h.elim fun a0 h => e3x1 h (k a0)
theorem e4x2 {t0 t1 t2 t3 : Type} {p0 p1 : t0 → t1 → t2 → t3 → Prop} {g : Prop} (h : ∃ a0 a1 a2 a3, p0 a0 a1 a2 a3 ∧ p1 a0 a1 a2 a3) (k : ∀ a0 a1 a2 a3, p0 a0 a1 a2 a3 → p1 a0 a1 a2 a3 → g) : g := h.elim fun a0 h => e3x2 h (k a0)
theorem e4x3 {t0 t1 t2 t3 : Type} {p0 p1 p2 : t0 → t1 → t2 → t3 → Prop} {g : Prop} (h : ∃ a0 a1 a2 a3, p0 a0 a1 a2 a3 ∧ p1 a0 a1 a2 a3 ∧ p2 a0 a1 a2 a3) (k : ∀ a0 a1 a2 a3, p0 a0 a1 a2 a3 → p1 a0 a1 a2 a3 → p2 a0 a1 a2 a3 → g) : g := h.elim fun a0 h => e3x3 h (k a0)
theorem e4x4 {t0 t1 t2 t3 : Type} {p0 p1 p2 p3 : t0 → t1 → t2 → t3 → Prop} {g : Prop} (h : ∃ a0 a1 a2 a3, p0 a0 a1 a2 a3 ∧ p1 a0 a1 a2 a3 ∧ p2 a0 a1 a2 a3 ∧ p3 a0 a1 a2 a3) (k : ∀ a0 a1 a2 a3, p0 a0 a1 a2 a3 → p1 a0 a1 a2 a3 → p2 a0 a1 a2 a3 → p3 a0 a1 a2 a3 → g) : g := h.elim fun a0 h => e3x4 h (k a0)
theorem e4x5 {t0 t1 t2 t3 : Type} {p0 p1 p2 p3 p4 : t0 → t1 → t2 → t3 → Prop} {g : Prop} (h : ∃ a0 a1 a2 a3, p0 a0 a1 a2 a3 ∧ p1 a0 a1 a2 a3 ∧ p2 a0 a1 a2 a3 ∧ p3 a0 a1 a2 a3 ∧ p4 a0 a1 a2 a3) (k : ∀ a0 a1 a2 a3, p0 a0 a1 a2 a3 → p1 a0 a1 a2 a3 → p2 a0 a1 a2 a3 → p3 a0 a1 a2 a3 → p4 a0 a1 a2 a3 → g) : g := h.elim fun a0 h => e3x5 h (k a0)
theorem e4x6 {t0 t1 t2 t3 : Type} {p0 p1 p2 p3 p4 p5 : t0 → t1 → t2 → t3 → Prop} {g : Prop} (h : ∃ a0 a1 a2 a3, p0 a0 a1 a2 a3 ∧ p1 a0 a1 a2 a3 ∧ p2 a0 a1 a2 a3 ∧ p3 a0 a1 a2 a3 ∧ p4 a0 a1 a2 a3 ∧ p5 a0 a1 a2 a3) (k : ∀ a0 a1 a2 a3, p0 a0 a1 a2 a3 → p1 a0 a1 a2 a3 → p2 a0 a1 a2 a3 → p3 a0 a1 a2 a3 → p4 a0 a1 a2 a3 → p5 a0 a1 a2 a3 → g) : g := h.elim fun a0 h => e3x6 h (k a0)
theorem e4x7 {t0 t1 t2 t3 : Type} {p0 p1 p2 p3 p4 p5 p6 : t0 → t1 → t2 → t3 → Prop} {g : Prop} (h : ∃ a0 a1 a2 a3, p0 a0 a1 a2 a3 ∧ p1 a0 a1 a2 a3 ∧ p2 a0 a1 a2 a3 ∧ p3 a0 a1 a2 a3 ∧ p4 a0 a1 a2 a3 ∧ p5 a0 a1 a2 a3 ∧ p6 a0 a1 a2 a3) (k : ∀ a0 a1 a2 a3, p0 a0 a1 a2 a3 → p1 a0 a1 a2 a3 → p2 a0 a1 a2 a3 → p3 a0 a1 a2 a3 → p4 a0 a1 a2 a3 → p5 a0 a1 a2 a3 → p6 a0 a1 a2 a3 → g) : g := h.elim fun a0 h => e3x7 h (k a0)
theorem e4x8 {t0 t1 t2 t3 : Type} {p0 p1 p2 p3 p4 p5 p6 p7 : t0 → t1 → t2 → t3 → Prop} {g : Prop} (h : ∃ a0 a1 a2 a3, p0 a0 a1 a2 a3 ∧ p1 a0 a1 a2 a3 ∧ p2 a0 a1 a2 a3 ∧ p3 a0 a1 a2 a3 ∧ p4 a0 a1 a2 a3 ∧ p5 a0 a1 a2 a3 ∧ p6 a0 a1 a2 a3 ∧ p7 a0 a1 a2 a3) (k : ∀ a0 a1 a2 a3, p0 a0 a1 a2 a3 → p1 a0 a1 a2 a3 → p2 a0 a1 a2 a3 → p3 a0 a1 a2 a3 → p4 a0 a1 a2 a3 → p5 a0 a1 a2 a3 → p6 a0 a1 a2 a3 → p7 a0 a1 a2 a3 → g) : g := h.elim fun a0 h => e3x8 h (k a0)
theorem e4x9 {t0 t1 t2 t3 : Type} {p0 p1 p2 p3 p4 p5 p6 p7 p8 : t0 → t1 → t2 → t3 → Prop} {g : Prop} (h : ∃ a0 a1 a2 a3, p0 a0 a1 a2 a3 ∧ p1 a0 a1 a2 a3 ∧ p2 a0 a1 a2 a3 ∧ p3 a0 a1 a2 a3 ∧ p4 a0 a1 a2 a3 ∧ p5 a0 a1 a2 a3 ∧ p6 a0 a1 a2 a3 ∧ p7 a0 a1 a2 a3 ∧ p8 a0 a1 a2 a3) (k : ∀ a0 a1 a2 a3, p0 a0 a1 a2 a3 → p1 a0 a1 a2 a3 → p2 a0 a1 a2 a3 → p3 a0 a1 a2 a3 → p4 a0 a1 a2 a3 → p5 a0 a1 a2 a3 → p6 a0 a1 a2 a3 → p7 a0 a1 a2 a3 → p8 a0 a1 a2 a3 → g) : g := h.elim fun a0 h => e3x9 h (k a0)
theorem e5x1 {t0 t1 t2 t3 t4 : Type} {p0 : t0 → t1 → t2 → t3 → t4 → Prop} {g : Prop} (h : ∃ a0 a1 a2 a3 a4, p0 a0 a1 a2 a3 a4) (k : ∀ a0 a1 a2 a3 a4, p0 a0 a1 a2 a3 a4 → g) : g := h.elim fun a0 h => e4x1 h (k a0)
theorem e5x2 {t0 t1 t2 t3 t4 : Type} {p0 p1 : t0 → t1 → t2 → t3 → t4 → Prop} {g : Prop} (h : ∃ a0 a1 a2 a3 a4, p0 a0 a1 a2 a3 a4 ∧ p1 a0 a1 a2 a3 a4) (k : ∀ a0 a1 a2 a3 a4, p0 a0 a1 a2 a3 a4 → p1 a0 a1 a2 a3 a4 → g) : g := h.elim fun a0 h => e4x2 h (k a0)
theorem e5x3 {t0 t1 t2 t3 t4 : Type} {p0 p1 p2 : t0 → t1 → t2 → t3 → t4 → Prop} {g : Prop} (h : ∃ a0 a1 a2 a3 a4, p0 a0 a1 a2 a3 a4 ∧ p1 a0 a1 a2 a3 a4 ∧ p2 a0 a1 a2 a3 a4) (k : ∀ a0 a1 a2 a3 a4, p0 a0 a1 a2 a3 a4 → p1 a0 a1 a2 a3 a4 → p2 a0 a1 a2 a3 a4 → g) : g := h.elim fun a0 h => e4x3 h (k a0)
theorem e5x4 {t0 t1 t2 t3 t4 : Type} {p0 p1 p2 p3 : t0 → t1 → t2 → t3 → t4 → Prop} {g : Prop} (h : ∃ a0 a1 a2 a3 a4, p0 a0 a1 a2 a3 a4 ∧ p1 a0 a1 a2 a3 a4 ∧ p2 a0 a1 a2 a3 a4 ∧ p3 a0 a1 a2 a3 a4) (k : ∀ a0 a1 a2 a3 a4, p0 a0 a1 a2 a3 a4 → p1 a0 a1 a2 a3 a4 → p2 a0 a1 a2 a3 a4 → p3 a0 a1 a2 a3 a4 → g) : g := h.elim fun a0 h => e4x4 h (k a0)
theorem e5x5 {t0 t1 t2 t3 t4 : Type} {p0 p1 p2 p3 p4 : t0 → t1 → t2 → t3 → t4 → Prop} {g : Prop} (h : ∃ a0 a1 a2 a3 a4, p0 a0 a1 a2 a3 a4 ∧ p1 a0 a1 a2 a3 a4 ∧ p2 a0 a1 a2 a3 a4 ∧ p3 a0 a1 a2 a3 a4 ∧ p4 a0 a1 a2 a3 a4) (k : ∀ a0 a1 a2 a3 a4, p0 a0 a1 a2 a3 a4 → p1 a0 a1 a2 a3 a4 → p2 a0 a1 a2 a3 a4 → p3 a0 a1 a2 a3 a4 → p4 a0 a1 a2 a3 a4 → g) : g := h.elim fun a0 h => e4x5 h (k a0)
theorem e5x6 {t0 t1 t2 t3 t4 : Type} {p0 p1 p2 p3 p4 p5 : t0 → t1 → t2 → t3 → t4 → Prop} {g : Prop} (h : ∃ a0 a1 a2 a3 a4, p0 a0 a1 a2 a3 a4 ∧ p1 a0 a1 a2 a3 a4 ∧ p2 a0 a1 a2 a3 a4 ∧ p3 a0 a1 a2 a3 a4 ∧ p4 a0 a1 a2 a3 a4 ∧ p5 a0 a1 a2 a3 a4) (k : ∀ a0 a1 a2 a3 a4, p0 a0 a1 a2 a3 a4 → p1 a0 a1 a2 a3 a4 → p2 a0 a1 a2 a3 a4 → p3 a0 a1 a2 a3 a4 → p4 a0 a1 a2 a3 a4 → p5 a0 a1 a2 a3 a4 → g) : g := h.elim fun a0 h => e4x6 h (k a0)
theorem e5x7 {t0 t1 t2 t3 t4 : Type} {p0 p1 p2 p3 p4 p5 p6 : t0 → t1 → t2 → t3 → t4 → Prop} {g : Prop} (h : ∃ a0 a1 a2 a3 a4, p0 a0 a1 a2 a3 a4 ∧ p1 a0 a1 a2 a3 a4 ∧ p2 a0 a1 a2 a3 a4 ∧ p3 a0 a1 a2 a3 a4 ∧ p4 a0 a1 a2 a3 a4 ∧ p5 a0 a1 a2 a3 a4 ∧ p6 a0 a1 a2 a3 a4) (k : ∀ a0 a1 a2 a3 a4, p0 a0 a1 a2 a3 a4 → p1 a0 a1 a2 a3 a4 → p2 a0 a1 a2 a3 a4 → p3 a0 a1 a2 a3 a4 → p4 a0 a1 a2 a3 a4 → p5 a0 a1 a2 a3 a4 → p6 a0 a1 a2 a3 a4 → g) : g := h.elim fun a0 h => e4x7 h (k a0)
theorem e5x8 {t0 t1 t2 t3 t4 : Type} {p0 p1 p2 p3 p4 p5 p6 p7 : t0 → t1 → t2 → t3 → t4 → Prop} {g : Prop} (h : ∃ a0 a1 a2 a3 a4, p0 a0 a1 a2 a3 a4 ∧ p1 a0 a1 a2 a3 a4 ∧ p2 a0 a1 a2 a3 a4 ∧ p3 a0 a1 a2 a3 a4 ∧ p4 a0 a1 a2 a3 a4 ∧ p5 a0 a1 a2 a3 a4 ∧ p6 a0 a1 a2 a3 a4 ∧ p7 a0 a1 a2 a3 a4) (k : ∀ a0 a1 a2 a3 a4, p0 a0 a1 a2 a3 a4 → p1 a0 a1 a2 a3 a4 → p2 a0 a1 a2 a3 a4 → p3 a0 a1 a2 a3 a4 → p4 a0 a1 a2 a3 a4 → p5 a0 a1 a2 a3 a4 → p6 a0 a1 a2 a3 a4 → p7 a0 a1 a2 a3 a4 → g) : g := h.elim fun a0 h => e4x8 h (k a0)
theorem e5x9 {t0 t1 t2 t3 t4 : Type} {p0 p1 p2 p3 p4 p5 p6 p7 p8 : t0 → t1 → t2 → t3 → t4 → Prop} {g : Prop} (h : ∃ a0 a1 a2 a3 a4, p0 a0 a1 a2 a3 a4 ∧ p1 a0 a1 a2 a3 a4 ∧ p2 a0 a1 a2 a3 a4 ∧ p3 a0 a1 a2 a3 a4 ∧ p4 a0 a1 a2 a3 a4 ∧ p5 a0 a1 a2 a3 a4 ∧ p6 a0 a1 a2 a3 a4 ∧ p7 a0 a1 a2 a3 a4 ∧ p8 a0 a1 a2 a3 a4) (k : ∀ a0 a1 a2 a3 a4, p0 a0 a1 a2 a3 a4 → p1 a0 a1 a2 a3 a4 → p2 a0 a1 a2 a3 a4 → p3 a0 a1 a2 a3 a4 → p4 a0 a1 a2 a3 a4 → p5 a0 a1 a2 a3 a4 → p6 a0 a1 a2 a3 a4 → p7 a0 a1 a2 a3 a4 → p8 a0 a1 a2 a3 a4 → g) : g := h.elim fun a0 h => e4x9 h (k a0)
theorem e6x2 {t0 t1 t2 t3 t4 t5 : Type} {p0 p1 : t0 → t1 → t2 → t3 → t4 → t5 → Prop} {g : Prop} (h : ∃ a0 a1 a2 a3 a4 a5, p0 a0 a1 a2 a3 a4 a5 ∧ p1 a0 a1 a2 a3 a4 a5) (k : ∀ a0 a1 a2 a3 a4 a5, p0 a0 a1 a2 a3 a4 a5 → p1 a0 a1 a2 a3 a4 a5 → g) : g := h.elim fun a0 h => e5x2 h (k a0)
theorem e6x3 {t0 t1 t2 t3 t4 t5 : Type} {p0 p1 p2 : t0 → t1 → t2 → t3 → t4 → t5 → Prop} {g : Prop} (h : ∃ a0 a1 a2 a3 a4 a5, p0 a0 a1 a2 a3 a4 a5 ∧ p1 a0 a1 a2 a3 a4 a5 ∧ p2 a0 a1 a2 a3 a4 a5) (k : ∀ a0 a1 a2 a3 a4 a5, p0 a0 a1 a2 a3 a4 a5 → p1 a0 a1 a2 a3 a4 a5 → p2 a0 a1 a2 a3 a4 a5 → g) : g := h.elim fun a0 h => e5x3 h (k a0)
theorem e6x4 {t0 t1 t2 t3 t4 t5 : Type} {p0 p1 p2 p3 : t0 → t1 → t2 → t3 → t4 → t5 → Prop} {g : Prop} (h : ∃ a0 a1 a2 a3 a4 a5, p0 a0 a1 a2 a3 a4 a5 ∧ p1 a0 a1 a2 a3 a4 a5 ∧ p2 a0 a1 a2 a3 a4 a5 ∧ p3 a0 a1 a2 a3 a4 a5) (k : ∀ a0 a1 a2 a3 a4 a5, p0 a0 a1 a2 a3 a4 a5 → p1 a0 a1 a2 a3 a4 a5 → p2 a0 a1 a2 a3 a4 a5 → p3 a0 a1 a2 a3 a4 a5 → g) : g := h.elim fun a0 h => e5x4 h (k a0)
theorem e6x6 {t0 t1 t2 t3 t4 t5 : Type} {p0 p1 p2 p3 p4 p5 : t0 → t1 → t2 → t3 → t4 → t5 → Prop} {g : Prop} (h : ∃ a0 a1 a2 a3 a4 a5, p0 a0 a1 a2 a3 a4 a5 ∧ p1 a0 a1 a2 a3 a4 a5 ∧ p2 a0 a1 a2 a3 a4 a5 ∧ p3 a0 a1 a2 a3 a4 a5 ∧ p4 a0 a1 a2 a3 a4 a5 ∧ p5 a0 a1 a2 a3 a4 a5) (k : ∀ a0 a1 a2 a3 a4 a5, p0 a0 a1 a2 a3 a4 a5 → p1 a0 a1 a2 a3 a4 a5 → p2 a0 a1 a2 a3 a4 a5 → p3 a0 a1 a2 a3 a4 a5 → p4 a0 a1 a2 a3 a4 a5 → p5 a0 a1 a2 a3 a4 a5 → g) : g := h.elim fun a0 h => e5x6 h (k a0)
theorem e6x7 {t0 t1 t2 t3 t4 t5 : Type} {p0 p1 p2 p3 p4 p5 p6 : t0 → t1 → t2 → t3 → t4 → t5 → Prop} {g : Prop} (h : ∃ a0 a1 a2 a3 a4 a5, p0 a0 a1 a2 a3 a4 a5 ∧ p1 a0 a1 a2 a3 a4 a5 ∧ p2 a0 a1 a2 a3 a4 a5 ∧ p3 a0 a1 a2 a3 a4 a5 ∧ p4 a0 a1 a2 a3 a4 a5 ∧ p5 a0 a1 a2 a3 a4 a5 ∧ p6 a0 a1 a2 a3 a4 a5) (k : ∀ a0 a1 a2 a3 a4 a5, p0 a0 a1 a2 a3 a4 a5 → p1 a0 a1 a2 a3 a4 a5 → p2 a0 a1 a2 a3 a4 a5 → p3 a0 a1 a2 a3 a4 a5 → p4 a0 a1 a2 a3 a4 a5 → p5 a0 a1 a2 a3 a4 a5 → p6 a0 a1 a2 a3 a4 a5 → g) : g := h.elim fun a0 h => e5x7 h (k a0)
theorem e6x8 {t0 t1 t2 t3 t4 t5 : Type} {p0 p1 p2 p3 p4 p5 p6 p7 : t0 → t1 → t2 → t3 → t4 → t5 → Prop} {g : Prop} (h : ∃ a0 a1 a2 a3 a4 a5, p0 a0 a1 a2 a3 a4 a5 ∧ p1 a0 a1 a2 a3 a4 a5 ∧ p2 a0 a1 a2 a3 a4 a5 ∧ p3 a0 a1 a2 a3 a4 a5 ∧ p4 a0 a1 a2 a3 a4 a5 ∧ p5 a0 a1 a2 a3 a4 a5 ∧ p6 a0 a1 a2 a3 a4 a5 ∧ p7 a0 a1 a2 a3 a4 a5) (k : ∀ a0 a1 a2 a3 a4 a5, p0 a0 a1 a2 a3 a4 a5 → p1 a0 a1 a2 a3 a4 a5 → p2 a0 a1 a2 a3 a4 a5 → p3 a0 a1 a2 a3 a4 a5 → p4 a0 a1 a2 a3 a4 a5 → p5 a0 a1 a2 a3 a4 a5 → p6 a0 a1 a2 a3 a4 a5 → p7 a0 a1 a2 a3 a4 a5 → g) : g := h.elim fun a0 h => e5x8 h (k a0)
theorem e7x2 {t0 t1 t2 t3 t4 t5 t6 : Type} {p0 p1 : t0 → t1 → t2 → t3 → t4 → t5 → t6 → Prop} {g : Prop} (h : ∃ a0 a1 a2 a3 a4 a5 a6, p0 a0 a1 a2 a3 a4 a5 a6 ∧ p1 a0 a1 a2 a3 a4 a5 a6) (k : ∀ a0 a1 a2 a3 a4 a5 a6, p0 a0 a1 a2 a3 a4 a5 a6 → p1 a0 a1 a2 a3 a4 a5 a6 → g) : g := h.elim fun a0 h => e6x2 h (k a0)
theorem e7x6 {t0 t1 t2 t3 t4 t5 t6 : Type} {p0 p1 p2 p3 p4 p5 : t0 → t1 → t2 → t3 → t4 → t5 → t6 → Prop} {g : Prop} (h : ∃ a0 a1 a2 a3 a4 a5 a6, p0 a0 a1 a2 a3 a4 a5 a6 ∧ p1 a0 a1 a2 a3 a4 a5 a6 ∧ p2 a0 a1 a2 a3 a4 a5 a6 ∧ p3 a0 a1 a2 a3 a4 a5 a6 ∧ p4 a0 a1 a2 a3 a4 a5 a6 ∧ p5 a0 a1 a2 a3 a4 a5 a6) (k : ∀ a0 a1 a2 a3 a4 a5 a6, p0 a0 a1 a2 a3 a4 a5 a6 → p1 a0 a1 a2 a3 a4 a5 a6 → p2 a0 a1 a2 a3 a4 a5 a6 → p3 a0 a1 a2 a3 a4 a5 a6 → p4 a0 a1 a2 a3 a4 a5 a6 → p5 a0 a1 a2 a3 a4 a5 a6 → g) : g := h.elim fun a0 h => e6x6 h (k a0)
theorem e7x7 {t0 t1 t2 t3 t4 t5 t6 : Type} {p0 p1 p2 p3 p4 p5 p6 : t0 → t1 → t2 → t3 → t4 → t5 → t6 → Prop} {g : Prop} (h : ∃ a0 a1 a2 a3 a4 a5 a6, p0 a0 a1 a2 a3 a4 a5 a6 ∧ p1 a0 a1 a2 a3 a4 a5 a6 ∧ p2 a0 a1 a2 a3 a4 a5 a6 ∧ p3 a0 a1 a2 a3 a4 a5 a6 ∧ p4 a0 a1 a2 a3 a4 a5 a6 ∧ p5 a0 a1 a2 a3 a4 a5 a6 ∧ p6 a0 a1 a2 a3 a4 a5 a6) (k : ∀ a0 a1 a2 a3 a4 a5 a6, p0 a0 a1 a2 a3 a4 a5 a6 → p1 a0 a1 a2 a3 a4 a5 a6 → p2 a0 a1 a2 a3 a4 a5 a6 → p3 a0 a1 a2 a3 a4 a5 a6 → p4 a0 a1 a2 a3 a4 a5 a6 → p5 a0 a1 a2 a3 a4 a5 a6 → p6 a0 a1 a2 a3 a4 a5 a6 → g) : g := h.elim fun a0 h => e6x7 h (k a0)
theorem e7x8 {t0 t1 t2 t3 t4 t5 t6 : Type} {p0 p1 p2 p3 p4 p5 p6 p7 : t0 → t1 → t2 → t3 → t4 → t5 → t6 → Prop} {g : Prop} (h : ∃ a0 a1 a2 a3 a4 a5 a6, p0 a0 a1 a2 a3 a4 a5 a6 ∧ p1 a0 a1 a2 a3 a4 a5 a6 ∧ p2 a0 a1 a2 a3 a4 a5 a6 ∧ p3 a0 a1 a2 a3 a4 a5 a6 ∧ p4 a0 a1 a2 a3 a4 a5 a6 ∧ p5 a0 a1 a2 a3 a4 a5 a6 ∧ p6 a0 a1 a2 a3 a4 a5 a6 ∧ p7 a0 a1 a2 a3 a4 a5 a6) (k : ∀ a0 a1 a2 a3 a4 a5 a6, p0 a0 a1 a2 a3 a4 a5 a6 → p1 a0 a1 a2 a3 a4 a5 a6 → p2 a0 a1 a2 a3 a4 a5 a6 → p3 a0 a1 a2 a3 a4 a5 a6 → p4 a0 a1 a2 a3 a4 a5 a6 → p5 a0 a1 a2 a3 a4 a5 a6 → p6 a0 a1 a2 a3 a4 a5 a6 → p7 a0 a1 a2 a3 a4 a5 a6 → g) : g := h.elim fun a0 h => e6x8 h (k a0)
theorem e8x2 {t0 t1 t2 t3 t4 t5 t6 t7 : Type} {p0 p1 : t0 → t1 → t2 → t3 → t4 → t5 → t6 → t7 → Prop} {g : Prop} (h : ∃ a0 a1 a2 a3 a4 a5 a6 a7, p0 a0 a1 a2 a3 a4 a5 a6 a7 ∧ p1 a0 a1 a2 a3 a4 a5 a6 a7) (k : ∀ a0 a1 a2 a3 a4 a5 a6 a7, p0 a0 a1 a2 a3 a4 a5 a6 a7 → p1 a0 a1 a2 a3 a4 a5 a6 a7 → g) : g := h.elim fun a0 h => e7x2 h (k a0)
theorem e8x6 {t0 t1 t2 t3 t4 t5 t6 t7 : Type} {p0 p1 p2 p3 p4 p5 : t0 → t1 → t2 → t3 → t4 → t5 → t6 → t7 → Prop} {g : Prop} (h : ∃ a0 a1 a2 a3 a4 a5 a6 a7, p0 a0 a1 a2 a3 a4 a5 a6 a7 ∧ p1 a0 a1 a2 a3 a4 a5 a6 a7 ∧ p2 a0 a1 a2 a3 a4 a5 a6 a7 ∧ p3 a0 a1 a2 a3 a4 a5 a6 a7 ∧ p4 a0 a1 a2 a3 a4 a5 a6 a7 ∧ p5 a0 a1 a2 a3 a4 a5 a6 a7) (k : ∀ a0 a1 a2 a3 a4 a5 a6 a7, p0 a0 a1 a2 a3 a4 a5 a6 a7 → p1 a0 a1 a2 a3 a4 a5 a6 a7 → p2 a0 a1 a2 a3 a4 a5 a6 a7 → p3 a0 a1 a2 a3 a4 a5 a6 a7 → p4 a0 a1 a2 a3 a4 a5 a6 a7 → p5 a0 a1 a2 a3 a4 a5 a6 a7 → g) : g := h.elim fun a0 h => e7x6 h (k a0)
theorem e8x7 {t0 t1 t2 t3 t4 t5 t6 t7 : Type} {p0 p1 p2 p3 p4 p5 p6 : t0 → t1 → t2 → t3 → t4 → t5 → t6 → t7 → Prop} {g : Prop} (h : ∃ a0 a1 a2 a3 a4 a5 a6 a7, p0 a0 a1 a2 a3 a4 a5 a6 a7 ∧ p1 a0 a1 a2 a3 a4 a5 a6 a7 ∧ p2 a0 a1 a2 a3 a4 a5 a6 a7 ∧ p3 a0 a1 a2 a3 a4 a5 a6 a7 ∧ p4 a0 a1 a2 a3 a4 a5 a6 a7 ∧ p5 a0 a1 a2 a3 a4 a5 a6 a7 ∧ p6 a0 a1 a2 a3 a4 a5 a6 a7) (k : ∀ a0 a1 a2 a3 a4 a5 a6 a7, p0 a0 a1 a2 a3 a4 a5 a6 a7 → p1 a0 a1 a2 a3 a4 a5 a6 a7 → p2 a0 a1 a2 a3 a4 a5 a6 a7 → p3 a0 a1 a2 a3 a4 a5 a6 a7 → p4 a0 a1 a2 a3 a4 a5 a6 a7 → p5 a0 a1 a2 a3 a4 a5 a6 a7 → p6 a0 a1 a2 a3 a4 a5 a6 a7 → g) : g := h.elim fun a0 h => e7x7 h (k a0)
theorem e8x8 {t0 t1 t2 t3 t4 t5 t6 t7 : Type} {p0 p1 p2 p3 p4 p5 p6 p7 : t0 → t1 → t2 → t3 → t4 → t5 → t6 → t7 → Prop} {g : Prop} (h : ∃ a0 a1 a2 a3 a4 a5 a6 a7, p0 a0 a1 a2 a3 a4 a5 a6 a7 ∧ p1 a0 a1 a2 a3 a4 a5 a6 a7 ∧ p2 a0 a1 a2 a3 a4 a5 a6 a7 ∧ p3 a0 a1 a2 a3 a4 a5 a6 a7 ∧ p4 a0 a1 a2 a3 a4 a5 a6 a7 ∧ p5 a0 a1 a2 a3 a4 a5 a6 a7 ∧ p6 a0 a1 a2 a3 a4 a5 a6 a7 ∧ p7 a0 a1 a2 a3 a4 a5 a6 a7) (k : ∀ a0 a1 a2 a3 a4 a5 a6 a7, p0 a0 a1 a2 a3 a4 a5 a6 a7 → p1 a0 a1 a2 a3 a4 a5 a6 a7 → p2 a0 a1 a2 a3 a4 a5 a6 a7 → p3 a0 a1 a2 a3 a4 a5 a6 a7 → p4 a0 a1 a2 a3 a4 a5 a6 a7 → p5 a0 a1 a2 a3 a4 a5 a6 a7 → p6 a0 a1 a2 a3 a4 a5 a6 a7 → p7 a0 a1 a2 a3 a4 a5 a6 a7 → g) : g := h.elim fun a0 h => e7x8 h (k a0)
theorem e9x2 {t0 t1 t2 t3 t4 t5 t6 t7 t8 : Type} {p0 p1 : t0 → t1 → t2 → t3 → t4 → t5 → t6 → t7 → t8 → Prop} {g : Prop} (h : ∃ a0 a1 a2 a3 a4 a5 a6 a7 a8, p0 a0 a1 a2 a3 a4 a5 a6 a7 a8 ∧ p1 a0 a1 a2 a3 a4 a5 a6 a7 a8) (k : ∀ a0 a1 a2 a3 a4 a5 a6 a7 a8, p0 a0 a1 a2 a3 a4 a5 a6 a7 a8 → p1 a0 a1 a2 a3 a4 a5 a6 a7 a8 → g) : g := h.elim fun a0 h => e8x2 h (k a0)
theorem e9x6 {t0 t1 t2 t3 t4 t5 t6 t7 t8 : Type} {p0 p1 p2 p3 p4 p5 : t0 → t1 → t2 → t3 → t4 → t5 → t6 → t7 → t8 → Prop} {g : Prop} (h : ∃ a0 a1 a2 a3 a4 a5 a6 a7 a8, p0 a0 a1 a2 a3 a4 a5 a6 a7 a8 ∧ p1 a0 a1 a2 a3 a4 a5 a6 a7 a8 ∧ p2 a0 a1 a2 a3 a4 a5 a6 a7 a8 ∧ p3 a0 a1 a2 a3 a4 a5 a6 a7 a8 ∧ p4 a0 a1 a2 a3 a4 a5 a6 a7 a8 ∧ p5 a0 a1 a2 a3 a4 a5 a6 a7 a8) (k : ∀ a0 a1 a2 a3 a4 a5 a6 a7 a8, p0 a0 a1 a2 a3 a4 a5 a6 a7 a8 → p1 a0 a1 a2 a3 a4 a5 a6 a7 a8 → p2 a0 a1 a2 a3 a4 a5 a6 a7 a8 → p3 a0 a1 a2 a3 a4 a5 a6 a7 a8 → p4 a0 a1 a2 a3 a4 a5 a6 a7 a8 → p5 a0 a1 a2 a3 a4 a5 a6 a7 a8 → g) : g := h.elim fun a0 h => e8x6 h (k a0)
theorem e9x8 {t0 t1 t2 t3 t4 t5 t6 t7 t8 : Type} {p0 p1 p2 p3 p4 p5 p6 p7 : t0 → t1 → t2 → t3 → t4 → t5 → t6 → t7 → t8 → Prop} {g : Prop} (h : ∃ a0 a1 a2 a3 a4 a5 a6 a7 a8, p0 a0 a1 a2 a3 a4 a5 a6 a7 a8 ∧ p1 a0 a1 a2 a3 a4 a5 a6 a7 a8 ∧ p2 a0 a1 a2 a3 a4 a5 a6 a7 a8 ∧ p3 a0 a1 a2 a3 a4 a5 a6 a7 a8 ∧ p4 a0 a1 a2 a3 a4 a5 a6 a7 a8 ∧ p5 a0 a1 a2 a3 a4 a5 a6 a7 a8 ∧ p6 a0 a1 a2 a3 a4 a5 a6 a7 a8 ∧ p7 a0 a1 a2 a3 a4 a5 a6 a7 a8) (k : ∀ a0 a1 a2 a3 a4 a5 a6 a7 a8, p0 a0 a1 a2 a3 a4 a5 a6 a7 a8 → p1 a0 a1 a2 a3 a4 a5 a6 a7 a8 → p2 a0 a1 a2 a3 a4 a5 a6 a7 a8 → p3 a0 a1 a2 a3 a4 a5 a6 a7 a8 → p4 a0 a1 a2 a3 a4 a5 a6 a7 a8 → p5 a0 a1 a2 a3 a4 a5 a6 a7 a8 → p6 a0 a1 a2 a3 a4 a5 a6 a7 a8 → p7 a0 a1 a2 a3 a4 a5 a6 a7 a8 → g) : g := h.elim fun a0 h => e8x8 h (k a0)
theorem i0x2 {p0 p1 : Prop}  (h0 : p0) (h1 : p1) : p0 ∧ p1 := And.intro h0 h1
theorem i0x3 {p0 p1 p2 : Prop}  (h0 : p0) (h1 : p1) (h2 : p2) : p0 ∧ p1 ∧ p2 := And.intro h0 (i0x2 h1 h2)
theorem i0x4 {p0 p1 p2 p3 : Prop}  (h0 : p0) (h1 : p1) (h2 : p2) (h3 : p3) : p0 ∧ p1 ∧ p2 ∧ p3 := And.intro h0 (i0x3 h1 h2 h3)
theorem i0x5 {p0 p1 p2 p3 p4 : Prop}  (h0 : p0) (h1 : p1) (h2 : p2) (h3 : p3) (h4 : p4) : p0 ∧ p1 ∧ p2 ∧ p3 ∧ p4 := And.intro h0 (i0x4 h1 h2 h3 h4)
theorem i0x6 {p0 p1 p2 p3 p4 p5 : Prop}  (h0 : p0) (h1 : p1) (h2 : p2) (h3 : p3) (h4 : p4) (h5 : p5) : p0 ∧ p1 ∧ p2 ∧ p3 ∧ p4 ∧ p5 := And.intro h0 (i0x5 h1 h2 h3 h4 h5)
theorem i0x7 {p0 p1 p2 p3 p4 p5 p6 : Prop}  (h0 : p0) (h1 : p1) (h2 : p2) (h3 : p3) (h4 : p4) (h5 : p5) (h6 : p6) : p0 ∧ p1 ∧ p2 ∧ p3 ∧ p4 ∧ p5 ∧ p6 := And.intro h0 (i0x6 h1 h2 h3 h4 h5 h6)
theorem i0x8 {p0 p1 p2 p3 p4 p5 p6 p7 : Prop}  (h0 : p0) (h1 : p1) (h2 : p2) (h3 : p3) (h4 : p4) (h5 : p5) (h6 : p6) (h7 : p7) : p0 ∧ p1 ∧ p2 ∧ p3 ∧ p4 ∧ p5 ∧ p6 ∧ p7 := And.intro h0 (i0x7 h1 h2 h3 h4 h5 h6 h7)
theorem i0x9 {p0 p1 p2 p3 p4 p5 p6 p7 p8 : Prop}  (h0 : p0) (h1 : p1) (h2 : p2) (h3 : p3) (h4 : p4) (h5 : p5) (h6 : p6) (h7 : p7) (h8 : p8) : p0 ∧ p1 ∧ p2 ∧ p3 ∧ p4 ∧ p5 ∧ p6 ∧ p7 ∧ p8 := And.intro h0 (i0x8 h1 h2 h3 h4 h5 h6 h7 h8)
theorem i1x1 {t0 : Type} {p0 : t0 → Prop} (a0 : t0) (h0 : p0 a0) : ∃ a0, p0 a0 := Exists.intro a0 h0
theorem i1x2 {t0 : Type} {p0 p1 : t0 → Prop} (a0 : t0) (h0 : p0 a0) (h1 : p1 a0) : ∃ a0, p0 a0 ∧ p1 a0 := Exists.intro a0 (i0x2 h0 h1)
theorem i1x3 {t0 : Type} {p0 p1 p2 : t0 → Prop} (a0 : t0) (h0 : p0 a0) (h1 : p1 a0) (h2 : p2 a0) : ∃ a0, p0 a0 ∧ p1 a0 ∧ p2 a0 := Exists.intro a0 (i0x3 h0 h1 h2)
theorem i1x4 {t0 : Type} {p0 p1 p2 p3 : t0 → Prop} (a0 : t0) (h0 : p0 a0) (h1 : p1 a0) (h2 : p2 a0) (h3 : p3 a0) : ∃ a0, p0 a0 ∧ p1 a0 ∧ p2 a0 ∧ p3 a0 := Exists.intro a0 (i0x4 h0 h1 h2 h3)
theorem i1x5 {t0 : Type} {p0 p1 p2 p3 p4 : t0 → Prop} (a0 : t0) (h0 : p0 a0) (h1 : p1 a0) (h2 : p2 a0) (h3 : p3 a0) (h4 : p4 a0) : ∃ a0, p0 a0 ∧ p1 a0 ∧ p2 a0 ∧ p3 a0 ∧ p4 a0 := Exists.intro a0 (i0x5 h0 h1 h2 h3 h4)
theorem i1x6 {t0 : Type} {p0 p1 p2 p3 p4 p5 : t0 → Prop} (a0 : t0) (h0 : p0 a0) (h1 : p1 a0) (h2 : p2 a0) (h3 : p3 a0) (h4 : p4 a0) (h5 : p5 a0) : ∃ a0, p0 a0 ∧ p1 a0 ∧ p2 a0 ∧ p3 a0 ∧ p4 a0 ∧ p5 a0 := Exists.intro a0 (i0x6 h0 h1 h2 h3 h4 h5)
theorem i1x7 {t0 : Type} {p0 p1 p2 p3 p4 p5 p6 : t0 → Prop} (a0 : t0) (h0 : p0 a0) (h1 : p1 a0) (h2 : p2 a0) (h3 : p3 a0) (h4 : p4 a0) (h5 : p5 a0) (h6 : p6 a0) : ∃ a0, p0 a0 ∧ p1 a0 ∧ p2 a0 ∧ p3 a0 ∧ p4 a0 ∧ p5 a0 ∧ p6 a0 := Exists.intro a0 (i0x7 h0 h1 h2 h3 h4 h5 h6)
theorem i1x8 {t0 : Type} {p0 p1 p2 p3 p4 p5 p6 p7 : t0 → Prop} (a0 : t0) (h0 : p0 a0) (h1 : p1 a0) (h2 : p2 a0) (h3 : p3 a0) (h4 : p4 a0) (h5 : p5 a0) (h6 : p6 a0) (h7 : p7 a0) : ∃ a0, p0 a0 ∧ p1 a0 ∧ p2 a0 ∧ p3 a0 ∧ p4 a0 ∧ p5 a0 ∧ p6 a0 ∧ p7 a0 := Exists.intro a0 (i0x8 h0 h1 h2 h3 h4 h5 h6 h7)
theorem i1x9 {t0 : Type} {p0 p1 p2 p3 p4 p5 p6 p7 p8 : t0 → Prop} (a0 : t0) (h0 : p0 a0) (h1 : p1 a0) (h2 : p2 a0) (h3 : p3 a0) (h4 : p4 a0) (h5 : p5 a0) (h6 : p6 a0) (h7 : p7 a0) (h8 : p8 a0) : ∃ a0, p0 a0 ∧ p1 a0 ∧ p2 a0 ∧ p3 a0 ∧ p4 a0 ∧ p5 a0 ∧ p6 a0 ∧ p7 a0 ∧ p8 a0 := Exists.intro a0 (i0x9 h0 h1 h2 h3 h4 h5 h6 h7 h8)
theorem i2x1 {t0 t1 : Type} {p0 : t0 → t1 → Prop} (a0 : t0) (a1 : t1) (h0 : p0 a0 a1) : ∃ a0 a1, p0 a0 a1 := Exists.intro a0 (i1x1 a1 h0)
theorem i2x2 {t0 t1 : Type} {p0 p1 : t0 → t1 → Prop} (a0 : t0) (a1 : t1) (h0 : p0 a0 a1) (h1 : p1 a0 a1) : ∃ a0 a1, p0 a0 a1 ∧ p1 a0 a1 := Exists.intro a0 (i1x2 a1 h0 h1)
theorem i2x3 {t0 t1 : Type} {p0 p1 p2 : t0 → t1 → Prop} (a0 : t0) (a1 : t1) (h0 : p0 a0 a1) (h1 : p1 a0 a1) (h2 : p2 a0 a1) : ∃ a0 a1, p0 a0 a1 ∧ p1 a0 a1 ∧ p2 a0 a1 := Exists.intro a0 (i1x3 a1 h0 h1 h2)
theorem i2x4 {t0 t1 : Type} {p0 p1 p2 p3 : t0 → t1 → Prop} (a0 : t0) (a1 : t1) (h0 : p0 a0 a1) (h1 : p1 a0 a1) (h2 : p2 a0 a1) (h3 : p3 a0 a1) : ∃ a0 a1, p0 a0 a1 ∧ p1 a0 a1 ∧ p2 a0 a1 ∧ p3 a0 a1 := Exists.intro a0 (i1x4 a1 h0 h1 h2 h3)
theorem i2x5 {t0 t1 : Type} {p0 p1 p2 p3 p4 : t0 → t1 → Prop} (a0 : t0) (a1 : t1) (h0 : p0 a0 a1) (h1 : p1 a0 a1) (h2 : p2 a0 a1) (h3 : p3 a0 a1) (h4 : p4 a0 a1) : ∃ a0 a1, p0 a0 a1 ∧ p1 a0 a1 ∧ p2 a0 a1 ∧ p3 a0 a1 ∧ p4 a0 a1 := Exists.intro a0 (i1x5 a1 h0 h1 h2 h3 h4)
theorem i2x6 {t0 t1 : Type} {p0 p1 p2 p3 p4 p5 : t0 → t1 → Prop} (a0 : t0) (a1 : t1) (h0 : p0 a0 a1) (h1 : p1 a0 a1) (h2 : p2 a0 a1) (h3 : p3 a0 a1) (h4 : p4 a0 a1) (h5 : p5 a0 a1) : ∃ a0 a1, p0 a0 a1 ∧ p1 a0 a1 ∧ p2 a0 a1 ∧ p3 a0 a1 ∧ p4 a0 a1 ∧ p5 a0 a1 := Exists.intro a0 (i1x6 a1 h0 h1 h2 h3 h4 h5)
theorem i2x7 {t0 t1 : Type} {p0 p1 p2 p3 p4 p5 p6 : t0 → t1 → Prop} (a0 : t0) (a1 : t1) (h0 : p0 a0 a1) (h1 : p1 a0 a1) (h2 : p2 a0 a1) (h3 : p3 a0 a1) (h4 : p4 a0 a1) (h5 : p5 a0 a1) (h6 : p6 a0 a1) : ∃ a0 a1, p0 a0 a1 ∧ p1 a0 a1 ∧ p2 a0 a1 ∧ p3 a0 a1 ∧ p4 a0 a1 ∧ p5 a0 a1 ∧ p6 a0 a1 := Exists.intro a0 (i1x7 a1 h0 h1 h2 h3 h4 h5 h6)
theorem i2x8 {t0 t1 : Type} {p0 p1 p2 p3 p4 p5 p6 p7 : t0 → t1 → Prop} (a0 : t0) (a1 : t1) (h0 : p0 a0 a1) (h1 : p1 a0 a1) (h2 : p2 a0 a1) (h3 : p3 a0 a1) (h4 : p4 a0 a1) (h5 : p5 a0 a1) (h6 : p6 a0 a1) (h7 : p7 a0 a1) : ∃ a0 a1, p0 a0 a1 ∧ p1 a0 a1 ∧ p2 a0 a1 ∧ p3 a0 a1 ∧ p4 a0 a1 ∧ p5 a0 a1 ∧ p6 a0 a1 ∧ p7 a0 a1 := Exists.intro a0 (i1x8 a1 h0 h1 h2 h3 h4 h5 h6 h7)
theorem i2x9 {t0 t1 : Type} {p0 p1 p2 p3 p4 p5 p6 p7 p8 : t0 → t1 → Prop} (a0 : t0) (a1 : t1) (h0 : p0 a0 a1) (h1 : p1 a0 a1) (h2 : p2 a0 a1) (h3 : p3 a0 a1) (h4 : p4 a0 a1) (h5 : p5 a0 a1) (h6 : p6 a0 a1) (h7 : p7 a0 a1) (h8 : p8 a0 a1) : ∃ a0 a1, p0 a0 a1 ∧ p1 a0 a1 ∧ p2 a0 a1 ∧ p3 a0 a1 ∧ p4 a0 a1 ∧ p5 a0 a1 ∧ p6 a0 a1 ∧ p7 a0 a1 ∧ p8 a0 a1 := Exists.intro a0 (i1x9 a1 h0 h1 h2 h3 h4 h5 h6 h7 h8)
theorem i3x2 {t0 t1 t2 : Type} {p0 p1 : t0 → t1 → t2 → Prop} (a0 : t0) (a1 : t1) (a2 : t2) (h0 : p0 a0 a1 a2) (h1 : p1 a0 a1 a2) : ∃ a0 a1 a2, p0 a0 a1 a2 ∧ p1 a0 a1 a2 := Exists.intro a0 (i2x2 a1 a2 h0 h1)
theorem i3x3 {t0 t1 t2 : Type} {p0 p1 p2 : t0 → t1 → t2 → Prop} (a0 : t0) (a1 : t1) (a2 : t2) (h0 : p0 a0 a1 a2) (h1 : p1 a0 a1 a2) (h2 : p2 a0 a1 a2) : ∃ a0 a1 a2, p0 a0 a1 a2 ∧ p1 a0 a1 a2 ∧ p2 a0 a1 a2 := Exists.intro a0 (i2x3 a1 a2 h0 h1 h2)
theorem i3x4 {t0 t1 t2 : Type} {p0 p1 p2 p3 : t0 → t1 → t2 → Prop} (a0 : t0) (a1 : t1) (a2 : t2) (h0 : p0 a0 a1 a2) (h1 : p1 a0 a1 a2) (h2 : p2 a0 a1 a2) (h3 : p3 a0 a1 a2) : ∃ a0 a1 a2, p0 a0 a1 a2 ∧ p1 a0 a1 a2 ∧ p2 a0 a1 a2 ∧ p3 a0 a1 a2 := Exists.intro a0 (i2x4 a1 a2 h0 h1 h2 h3)
theorem i3x5 {t0 t1 t2 : Type} {p0 p1 p2 p3 p4 : t0 → t1 → t2 → Prop} (a0 : t0) (a1 : t1) (a2 : t2) (h0 : p0 a0 a1 a2) (h1 : p1 a0 a1 a2) (h2 : p2 a0 a1 a2) (h3 : p3 a0 a1 a2) (h4 : p4 a0 a1 a2) : ∃ a0 a1 a2, p0 a0 a1 a2 ∧ p1 a0 a1 a2 ∧ p2 a0 a1 a2 ∧ p3 a0 a1 a2 ∧ p4 a0 a1 a2 := Exists.intro a0 (i2x5 a1 a2 h0 h1 h2 h3 h4)
theorem i3x6 {t0 t1 t2 : Type} {p0 p1 p2 p3 p4 p5 : t0 → t1 → t2 → Prop} (a0 : t0) (a1 : t1) (a2 : t2) (h0 : p0 a0 a1 a2) (h1 : p1 a0 a1 a2) (h2 : p2 a0 a1 a2) (h3 : p3 a0 a1 a2) (h4 : p4 a0 a1 a2) (h5 : p5 a0 a1 a2) : ∃ a0 a1 a2, p0 a0 a1 a2 ∧ p1 a0 a1 a2 ∧ p2 a0 a1 a2 ∧ p3 a0 a1 a2 ∧ p4 a0 a1 a2 ∧ p5 a0 a1 a2 := Exists.intro a0 (i2x6 a1 a2 h0 h1 h2 h3 h4 h5)
theorem i3x7 {t0 t1 t2 : Type} {p0 p1 p2 p3 p4 p5 p6 : t0 → t1 → t2 → Prop} (a0 : t0) (a1 : t1) (a2 : t2) (h0 : p0 a0 a1 a2) (h1 : p1 a0 a1 a2) (h2 : p2 a0 a1 a2) (h3 : p3 a0 a1 a2) (h4 : p4 a0 a1 a2) (h5 : p5 a0 a1 a2) (h6 : p6 a0 a1 a2) : ∃ a0 a1 a2, p0 a0 a1 a2 ∧ p1 a0 a1 a2 ∧ p2 a0 a1 a2 ∧ p3 a0 a1 a2 ∧ p4 a0 a1 a2 ∧ p5 a0 a1 a2 ∧ p6 a0 a1 a2 := Exists.intro a0 (i2x7 a1 a2 h0 h1 h2 h3 h4 h5 h6)
theorem i3x8 {t0 t1 t2 : Type} {p0 p1 p2 p3 p4 p5 p6 p7 : t0 → t1 → t2 → Prop} (a0 : t0) (a1 : t1) (a2 : t2) (h0 : p0 a0 a1 a2) (h1 : p1 a0 a1 a2) (h2 : p2 a0 a1 a2) (h3 : p3 a0 a1 a2) (h4 : p4 a0 a1 a2) (h5 : p5 a0 a1 a2) (h6 : p6 a0 a1 a2) (h7 : p7 a0 a1 a2) : ∃ a0 a1 a2, p0 a0 a1 a2 ∧ p1 a0 a1 a2 ∧ p2 a0 a1 a2 ∧ p3 a0 a1 a2 ∧ p4 a0 a1 a2 ∧ p5 a0 a1 a2 ∧ p6 a0 a1 a2 ∧ p7 a0 a1 a2 := Exists.intro a0 (i2x8 a1 a2 h0 h1 h2 h3 h4 h5 h6 h7)
theorem i3x9 {t0 t1 t2 : Type} {p0 p1 p2 p3 p4 p5 p6 p7 p8 : t0 → t1 → t2 → Prop} (a0 : t0) (a1 : t1) (a2 : t2) (h0 : p0 a0 a1 a2) (h1 : p1 a0 a1 a2) (h2 : p2 a0 a1 a2) (h3 : p3 a0 a1 a2) (h4 : p4 a0 a1 a2) (h5 : p5 a0 a1 a2) (h6 : p6 a0 a1 a2) (h7 : p7 a0 a1 a2) (h8 : p8 a0 a1 a2) : ∃ a0 a1 a2, p0 a0 a1 a2 ∧ p1 a0 a1 a2 ∧ p2 a0 a1 a2 ∧ p3 a0 a1 a2 ∧ p4 a0 a1 a2 ∧ p5 a0 a1 a2 ∧ p6 a0 a1 a2 ∧ p7 a0 a1 a2 ∧ p8 a0 a1 a2 := Exists.intro a0 (i2x9 a1 a2 h0 h1 h2 h3 h4 h5 h6 h7 h8)
theorem i4x2 {t0 t1 t2 t3 : Type} {p0 p1 : t0 → t1 → t2 → t3 → Prop} (a0 : t0) (a1 : t1) (a2 : t2) (a3 : t3) (h0 : p0 a0 a1 a2 a3) (h1 : p1 a0 a1 a2 a3) : ∃ a0 a1 a2 a3, p0 a0 a1 a2 a3 ∧ p1 a0 a1 a2 a3 := Exists.intro a0 (i3x2 a1 a2 a3 h0 h1)
theorem i4x3 {t0 t1 t2 t3 : Type} {p0 p1 p2 : t0 → t1 → t2 → t3 → Prop} (a0 : t0) (a1 : t1) (a2 : t2) (a3 : t3) (h0 : p0 a0 a1 a2 a3) (h1 : p1 a0 a1 a2 a3) (h2 : p2 a0 a1 a2 a3) : ∃ a0 a1 a2 a3, p0 a0 a1 a2 a3 ∧ p1 a0 a1 a2 a3 ∧ p2 a0 a1 a2 a3 := Exists.intro a0 (i3x3 a1 a2 a3 h0 h1 h2)
theorem i4x4 {t0 t1 t2 t3 : Type} {p0 p1 p2 p3 : t0 → t1 → t2 → t3 → Prop} (a0 : t0) (a1 : t1) (a2 : t2) (a3 : t3) (h0 : p0 a0 a1 a2 a3) (h1 : p1 a0 a1 a2 a3) (h2 : p2 a0 a1 a2 a3) (h3 : p3 a0 a1 a2 a3) : ∃ a0 a1 a2 a3, p0 a0 a1 a2 a3 ∧ p1 a0 a1 a2 a3 ∧ p2 a0 a1 a2 a3 ∧ p3 a0 a1 a2 a3 := Exists.intro a0 (i3x4 a1 a2 a3 h0 h1 h2 h3)
theorem i4x5 {t0 t1 t2 t3 : Type} {p0 p1 p2 p3 p4 : t0 → t1 → t2 → t3 → Prop} (a0 : t0) (a1 : t1) (a2 : t2) (a3 : t3) (h0 : p0 a0 a1 a2 a3) (h1 : p1 a0 a1 a2 a3) (h2 : p2 a0 a1 a2 a3) (h3 : p3 a0 a1 a2 a3) (h4 : p4 a0 a1 a2 a3) : ∃ a0 a1 a2 a3, p0 a0 a1 a2 a3 ∧ p1 a0 a1 a2 a3 ∧ p2 a0 a1 a2 a3 ∧ p3 a0 a1 a2 a3 ∧ p4 a0 a1 a2 a3 := Exists.intro a0 (i3x5 a1 a2 a3 h0 h1 h2 h3 h4)
theorem i4x6 {t0 t1 t2 t3 : Type} {p0 p1 p2 p3 p4 p5 : t0 → t1 → t2 → t3 → Prop} (a0 : t0) (a1 : t1) (a2 : t2) (a3 : t3) (h0 : p0 a0 a1 a2 a3) (h1 : p1 a0 a1 a2 a3) (h2 : p2 a0 a1 a2 a3) (h3 : p3 a0 a1 a2 a3) (h4 : p4 a0 a1 a2 a3) (h5 : p5 a0 a1 a2 a3) : ∃ a0 a1 a2 a3, p0 a0 a1 a2 a3 ∧ p1 a0 a1 a2 a3 ∧ p2 a0 a1 a2 a3 ∧ p3 a0 a1 a2 a3 ∧ p4 a0 a1 a2 a3 ∧ p5 a0 a1 a2 a3 := Exists.intro a0 (i3x6 a1 a2 a3 h0 h1 h2 h3 h4 h5)
theorem i4x7 {t0 t1 t2 t3 : Type} {p0 p1 p2 p3 p4 p5 p6 : t0 → t1 → t2 → t3 → Prop} (a0 : t0) (a1 : t1) (a2 : t2) (a3 : t3) (h0 : p0 a0 a1 a2 a3) (h1 : p1 a0 a1 a2 a3) (h2 : p2 a0 a1 a2 a3) (h3 : p3 a0 a1 a2 a3) (h4 : p4 a0 a1 a2 a3) (h5 : p5 a0 a1 a2 a3) (h6 : p6 a0 a1 a2 a3) : ∃ a0 a1 a2 a3, p0 a0 a1 a2 a3 ∧ p1 a0 a1 a2 a3 ∧ p2 a0 a1 a2 a3 ∧ p3 a0 a1 a2 a3 ∧ p4 a0 a1 a2 a3 ∧ p5 a0 a1 a2 a3 ∧ p6 a0 a1 a2 a3 := Exists.intro a0 (i3x7 a1 a2 a3 h0 h1 h2 h3 h4 h5 h6)
theorem i4x8 {t0 t1 t2 t3 : Type} {p0 p1 p2 p3 p4 p5 p6 p7 : t0 → t1 → t2 → t3 → Prop} (a0 : t0) (a1 : t1) (a2 : t2) (a3 : t3) (h0 : p0 a0 a1 a2 a3) (h1 : p1 a0 a1 a2 a3) (h2 : p2 a0 a1 a2 a3) (h3 : p3 a0 a1 a2 a3) (h4 : p4 a0 a1 a2 a3) (h5 : p5 a0 a1 a2 a3) (h6 : p6 a0 a1 a2 a3) (h7 : p7 a0 a1 a2 a3) : ∃ a0 a1 a2 a3, p0 a0 a1 a2 a3 ∧ p1 a0 a1 a2 a3 ∧ p2 a0 a1 a2 a3 ∧ p3 a0 a1 a2 a3 ∧ p4 a0 a1 a2 a3 ∧ p5 a0 a1 a2 a3 ∧ p6 a0 a1 a2 a3 ∧ p7 a0 a1 a2 a3 := Exists.intro a0 (i3x8 a1 a2 a3 h0 h1 h2 h3 h4 h5 h6 h7)
theorem i4x9 {t0 t1 t2 t3 : Type} {p0 p1 p2 p3 p4 p5 p6 p7 p8 : t0 → t1 → t2 → t3 → Prop} (a0 : t0) (a1 : t1) (a2 : t2) (a3 : t3) (h0 : p0 a0 a1 a2 a3) (h1 : p1 a0 a1 a2 a3) (h2 : p2 a0 a1 a2 a3) (h3 : p3 a0 a1 a2 a3) (h4 : p4 a0 a1 a2 a3) (h5 : p5 a0 a1 a2 a3) (h6 : p6 a0 a1 a2 a3) (h7 : p7 a0 a1 a2 a3) (h8 : p8 a0 a1 a2 a3) : ∃ a0 a1 a2 a3, p0 a0 a1 a2 a3 ∧ p1 a0 a1 a2 a3 ∧ p2 a0 a1 a2 a3 ∧ p3 a0 a1 a2 a3 ∧ p4 a0 a1 a2 a3 ∧ p5 a0 a1 a2 a3 ∧ p6 a0 a1 a2 a3 ∧ p7 a0 a1 a2 a3 ∧ p8 a0 a1 a2 a3 := Exists.intro a0 (i3x9 a1 a2 a3 h0 h1 h2 h3 h4 h5 h6 h7 h8)
theorem i5x3 {t0 t1 t2 t3 t4 : Type} {p0 p1 p2 : t0 → t1 → t2 → t3 → t4 → Prop} (a0 : t0) (a1 : t1) (a2 : t2) (a3 : t3) (a4 : t4) (h0 : p0 a0 a1 a2 a3 a4) (h1 : p1 a0 a1 a2 a3 a4) (h2 : p2 a0 a1 a2 a3 a4) : ∃ a0 a1 a2 a3 a4, p0 a0 a1 a2 a3 a4 ∧ p1 a0 a1 a2 a3 a4 ∧ p2 a0 a1 a2 a3 a4 := Exists.intro a0 (i4x3 a1 a2 a3 a4 h0 h1 h2)
theorem i5x4 {t0 t1 t2 t3 t4 : Type} {p0 p1 p2 p3 : t0 → t1 → t2 → t3 → t4 → Prop} (a0 : t0) (a1 : t1) (a2 : t2) (a3 : t3) (a4 : t4) (h0 : p0 a0 a1 a2 a3 a4) (h1 : p1 a0 a1 a2 a3 a4) (h2 : p2 a0 a1 a2 a3 a4) (h3 : p3 a0 a1 a2 a3 a4) : ∃ a0 a1 a2 a3 a4, p0 a0 a1 a2 a3 a4 ∧ p1 a0 a1 a2 a3 a4 ∧ p2 a0 a1 a2 a3 a4 ∧ p3 a0 a1 a2 a3 a4 := Exists.intro a0 (i4x4 a1 a2 a3 a4 h0 h1 h2 h3)
theorem i5x5 {t0 t1 t2 t3 t4 : Type} {p0 p1 p2 p3 p4 : t0 → t1 → t2 → t3 → t4 → Prop} (a0 : t0) (a1 : t1) (a2 : t2) (a3 : t3) (a4 : t4) (h0 : p0 a0 a1 a2 a3 a4) (h1 : p1 a0 a1 a2 a3 a4) (h2 : p2 a0 a1 a2 a3 a4) (h3 : p3 a0 a1 a2 a3 a4) (h4 : p4 a0 a1 a2 a3 a4) : ∃ a0 a1 a2 a3 a4, p0 a0 a1 a2 a3 a4 ∧ p1 a0 a1 a2 a3 a4 ∧ p2 a0 a1 a2 a3 a4 ∧ p3 a0 a1 a2 a3 a4 ∧ p4 a0 a1 a2 a3 a4 := Exists.intro a0 (i4x5 a1 a2 a3 a4 h0 h1 h2 h3 h4)
theorem i5x6 {t0 t1 t2 t3 t4 : Type} {p0 p1 p2 p3 p4 p5 : t0 → t1 → t2 → t3 → t4 → Prop} (a0 : t0) (a1 : t1) (a2 : t2) (a3 : t3) (a4 : t4) (h0 : p0 a0 a1 a2 a3 a4) (h1 : p1 a0 a1 a2 a3 a4) (h2 : p2 a0 a1 a2 a3 a4) (h3 : p3 a0 a1 a2 a3 a4) (h4 : p4 a0 a1 a2 a3 a4) (h5 : p5 a0 a1 a2 a3 a4) : ∃ a0 a1 a2 a3 a4, p0 a0 a1 a2 a3 a4 ∧ p1 a0 a1 a2 a3 a4 ∧ p2 a0 a1 a2 a3 a4 ∧ p3 a0 a1 a2 a3 a4 ∧ p4 a0 a1 a2 a3 a4 ∧ p5 a0 a1 a2 a3 a4 := Exists.intro a0 (i4x6 a1 a2 a3 a4 h0 h1 h2 h3 h4 h5)
theorem i5x7 {t0 t1 t2 t3 t4 : Type} {p0 p1 p2 p3 p4 p5 p6 : t0 → t1 → t2 → t3 → t4 → Prop} (a0 : t0) (a1 : t1) (a2 : t2) (a3 : t3) (a4 : t4) (h0 : p0 a0 a1 a2 a3 a4) (h1 : p1 a0 a1 a2 a3 a4) (h2 : p2 a0 a1 a2 a3 a4) (h3 : p3 a0 a1 a2 a3 a4) (h4 : p4 a0 a1 a2 a3 a4) (h5 : p5 a0 a1 a2 a3 a4) (h6 : p6 a0 a1 a2 a3 a4) : ∃ a0 a1 a2 a3 a4, p0 a0 a1 a2 a3 a4 ∧ p1 a0 a1 a2 a3 a4 ∧ p2 a0 a1 a2 a3 a4 ∧ p3 a0 a1 a2 a3 a4 ∧ p4 a0 a1 a2 a3 a4 ∧ p5 a0 a1 a2 a3 a4 ∧ p6 a0 a1 a2 a3 a4 := Exists.intro a0 (i4x7 a1 a2 a3 a4 h0 h1 h2 h3 h4 h5 h6)
theorem i5x8 {t0 t1 t2 t3 t4 : Type} {p0 p1 p2 p3 p4 p5 p6 p7 : t0 → t1 → t2 → t3 → t4 → Prop} (a0 : t0) (a1 : t1) (a2 : t2) (a3 : t3) (a4 : t4) (h0 : p0 a0 a1 a2 a3 a4) (h1 : p1 a0 a1 a2 a3 a4) (h2 : p2 a0 a1 a2 a3 a4) (h3 : p3 a0 a1 a2 a3 a4) (h4 : p4 a0 a1 a2 a3 a4) (h5 : p5 a0 a1 a2 a3 a4) (h6 : p6 a0 a1 a2 a3 a4) (h7 : p7 a0 a1 a2 a3 a4) : ∃ a0 a1 a2 a3 a4, p0 a0 a1 a2 a3 a4 ∧ p1 a0 a1 a2 a3 a4 ∧ p2 a0 a1 a2 a3 a4 ∧ p3 a0 a1 a2 a3 a4 ∧ p4 a0 a1 a2 a3 a4 ∧ p5 a0 a1 a2 a3 a4 ∧ p6 a0 a1 a2 a3 a4 ∧ p7 a0 a1 a2 a3 a4 := Exists.intro a0 (i4x8 a1 a2 a3 a4 h0 h1 h2 h3 h4 h5 h6 h7)
theorem i5x9 {t0 t1 t2 t3 t4 : Type} {p0 p1 p2 p3 p4 p5 p6 p7 p8 : t0 → t1 → t2 → t3 → t4 → Prop} (a0 : t0) (a1 : t1) (a2 : t2) (a3 : t3) (a4 : t4) (h0 : p0 a0 a1 a2 a3 a4) (h1 : p1 a0 a1 a2 a3 a4) (h2 : p2 a0 a1 a2 a3 a4) (h3 : p3 a0 a1 a2 a3 a4) (h4 : p4 a0 a1 a2 a3 a4) (h5 : p5 a0 a1 a2 a3 a4) (h6 : p6 a0 a1 a2 a3 a4) (h7 : p7 a0 a1 a2 a3 a4) (h8 : p8 a0 a1 a2 a3 a4) : ∃ a0 a1 a2 a3 a4, p0 a0 a1 a2 a3 a4 ∧ p1 a0 a1 a2 a3 a4 ∧ p2 a0 a1 a2 a3 a4 ∧ p3 a0 a1 a2 a3 a4 ∧ p4 a0 a1 a2 a3 a4 ∧ p5 a0 a1 a2 a3 a4 ∧ p6 a0 a1 a2 a3 a4 ∧ p7 a0 a1 a2 a3 a4 ∧ p8 a0 a1 a2 a3 a4 := Exists.intro a0 (i4x9 a1 a2 a3 a4 h0 h1 h2 h3 h4 h5 h6 h7 h8)
theorem i6x6 {t0 t1 t2 t3 t4 t5 : Type} {p0 p1 p2 p3 p4 p5 : t0 → t1 → t2 → t3 → t4 → t5 → Prop} (a0 : t0) (a1 : t1) (a2 : t2) (a3 : t3) (a4 : t4) (a5 : t5) (h0 : p0 a0 a1 a2 a3 a4 a5) (h1 : p1 a0 a1 a2 a3 a4 a5) (h2 : p2 a0 a1 a2 a3 a4 a5) (h3 : p3 a0 a1 a2 a3 a4 a5) (h4 : p4 a0 a1 a2 a3 a4 a5) (h5 : p5 a0 a1 a2 a3 a4 a5) : ∃ a0 a1 a2 a3 a4 a5, p0 a0 a1 a2 a3 a4 a5 ∧ p1 a0 a1 a2 a3 a4 a5 ∧ p2 a0 a1 a2 a3 a4 a5 ∧ p3 a0 a1 a2 a3 a4 a5 ∧ p4 a0 a1 a2 a3 a4 a5 ∧ p5 a0 a1 a2 a3 a4 a5 := Exists.intro a0 (i5x6 a1 a2 a3 a4 a5 h0 h1 h2 h3 h4 h5)
theorem i6x7 {t0 t1 t2 t3 t4 t5 : Type} {p0 p1 p2 p3 p4 p5 p6 : t0 → t1 → t2 → t3 → t4 → t5 → Prop} (a0 : t0) (a1 : t1) (a2 : t2) (a3 : t3) (a4 : t4) (a5 : t5) (h0 : p0 a0 a1 a2 a3 a4 a5) (h1 : p1 a0 a1 a2 a3 a4 a5) (h2 : p2 a0 a1 a2 a3 a4 a5) (h3 : p3 a0 a1 a2 a3 a4 a5) (h4 : p4 a0 a1 a2 a3 a4 a5) (h5 : p5 a0 a1 a2 a3 a4 a5) (h6 : p6 a0 a1 a2 a3 a4 a5) : ∃ a0 a1 a2 a3 a4 a5, p0 a0 a1 a2 a3 a4 a5 ∧ p1 a0 a1 a2 a3 a4 a5 ∧ p2 a0 a1 a2 a3 a4 a5 ∧ p3 a0 a1 a2 a3 a4 a5 ∧ p4 a0 a1 a2 a3 a4 a5 ∧ p5 a0 a1 a2 a3 a4 a5 ∧ p6 a0 a1 a2 a3 a4 a5 := Exists.intro a0 (i5x7 a1 a2 a3 a4 a5 h0 h1 h2 h3 h4 h5 h6)
theorem i6x8 {t0 t1 t2 t3 t4 t5 : Type} {p0 p1 p2 p3 p4 p5 p6 p7 : t0 → t1 → t2 → t3 → t4 → t5 → Prop} (a0 : t0) (a1 : t1) (a2 : t2) (a3 : t3) (a4 : t4) (a5 : t5) (h0 : p0 a0 a1 a2 a3 a4 a5) (h1 : p1 a0 a1 a2 a3 a4 a5) (h2 : p2 a0 a1 a2 a3 a4 a5) (h3 : p3 a0 a1 a2 a3 a4 a5) (h4 : p4 a0 a1 a2 a3 a4 a5) (h5 : p5 a0 a1 a2 a3 a4 a5) (h6 : p6 a0 a1 a2 a3 a4 a5) (h7 : p7 a0 a1 a2 a3 a4 a5) : ∃ a0 a1 a2 a3 a4 a5, p0 a0 a1 a2 a3 a4 a5 ∧ p1 a0 a1 a2 a3 a4 a5 ∧ p2 a0 a1 a2 a3 a4 a5 ∧ p3 a0 a1 a2 a3 a4 a5 ∧ p4 a0 a1 a2 a3 a4 a5 ∧ p5 a0 a1 a2 a3 a4 a5 ∧ p6 a0 a1 a2 a3 a4 a5 ∧ p7 a0 a1 a2 a3 a4 a5 := Exists.intro a0 (i5x8 a1 a2 a3 a4 a5 h0 h1 h2 h3 h4 h5 h6 h7)
theorem i7x6 {t0 t1 t2 t3 t4 t5 t6 : Type} {p0 p1 p2 p3 p4 p5 : t0 → t1 → t2 → t3 → t4 → t5 → t6 → Prop} (a0 : t0) (a1 : t1) (a2 : t2) (a3 : t3) (a4 : t4) (a5 : t5) (a6 : t6) (h0 : p0 a0 a1 a2 a3 a4 a5 a6) (h1 : p1 a0 a1 a2 a3 a4 a5 a6) (h2 : p2 a0 a1 a2 a3 a4 a5 a6) (h3 : p3 a0 a1 a2 a3 a4 a5 a6) (h4 : p4 a0 a1 a2 a3 a4 a5 a6) (h5 : p5 a0 a1 a2 a3 a4 a5 a6) : ∃ a0 a1 a2 a3 a4 a5 a6, p0 a0 a1 a2 a3 a4 a5 a6 ∧ p1 a0 a1 a2 a3 a4 a5 a6 ∧ p2 a0 a1 a2 a3 a4 a5 a6 ∧ p3 a0 a1 a2 a3 a4 a5 a6 ∧ p4 a0 a1 a2 a3 a4 a5 a6 ∧ p5 a0 a1 a2 a3 a4 a5 a6 := Exists.intro a0 (i6x6 a1 a2 a3 a4 a5 a6 h0 h1 h2 h3 h4 h5)
theorem i7x7 {t0 t1 t2 t3 t4 t5 t6 : Type} {p0 p1 p2 p3 p4 p5 p6 : t0 → t1 → t2 → t3 → t4 → t5 → t6 → Prop} (a0 : t0) (a1 : t1) (a2 : t2) (a3 : t3) (a4 : t4) (a5 : t5) (a6 : t6) (h0 : p0 a0 a1 a2 a3 a4 a5 a6) (h1 : p1 a0 a1 a2 a3 a4 a5 a6) (h2 : p2 a0 a1 a2 a3 a4 a5 a6) (h3 : p3 a0 a1 a2 a3 a4 a5 a6) (h4 : p4 a0 a1 a2 a3 a4 a5 a6) (h5 : p5 a0 a1 a2 a3 a4 a5 a6) (h6 : p6 a0 a1 a2 a3 a4 a5 a6) : ∃ a0 a1 a2 a3 a4 a5 a6, p0 a0 a1 a2 a3 a4 a5 a6 ∧ p1 a0 a1 a2 a3 a4 a5 a6 ∧ p2 a0 a1 a2 a3 a4 a5 a6 ∧ p3 a0 a1 a2 a3 a4 a5 a6 ∧ p4 a0 a1 a2 a3 a4 a5 a6 ∧ p5 a0 a1 a2 a3 a4 a5 a6 ∧ p6 a0 a1 a2 a3 a4 a5 a6 := Exists.intro a0 (i6x7 a1 a2 a3 a4 a5 a6 h0 h1 h2 h3 h4 h5 h6)
theorem i7x8 {t0 t1 t2 t3 t4 t5 t6 : Type} {p0 p1 p2 p3 p4 p5 p6 p7 : t0 → t1 → t2 → t3 → t4 → t5 → t6 → Prop} (a0 : t0) (a1 : t1) (a2 : t2) (a3 : t3) (a4 : t4) (a5 : t5) (a6 : t6) (h0 : p0 a0 a1 a2 a3 a4 a5 a6) (h1 : p1 a0 a1 a2 a3 a4 a5 a6) (h2 : p2 a0 a1 a2 a3 a4 a5 a6) (h3 : p3 a0 a1 a2 a3 a4 a5 a6) (h4 : p4 a0 a1 a2 a3 a4 a5 a6) (h5 : p5 a0 a1 a2 a3 a4 a5 a6) (h6 : p6 a0 a1 a2 a3 a4 a5 a6) (h7 : p7 a0 a1 a2 a3 a4 a5 a6) : ∃ a0 a1 a2 a3 a4 a5 a6, p0 a0 a1 a2 a3 a4 a5 a6 ∧ p1 a0 a1 a2 a3 a4 a5 a6 ∧ p2 a0 a1 a2 a3 a4 a5 a6 ∧ p3 a0 a1 a2 a3 a4 a5 a6 ∧ p4 a0 a1 a2 a3 a4 a5 a6 ∧ p5 a0 a1 a2 a3 a4 a5 a6 ∧ p6 a0 a1 a2 a3 a4 a5 a6 ∧ p7 a0 a1 a2 a3 a4 a5 a6 := Exists.intro a0 (i6x8 a1 a2 a3 a4 a5 a6 h0 h1 h2 h3 h4 h5 h6 h7)
theorem i8x6 {t0 t1 t2 t3 t4 t5 t6 t7 : Type} {p0 p1 p2 p3 p4 p5 : t0 → t1 → t2 → t3 → t4 → t5 → t6 → t7 → Prop} (a0 : t0) (a1 : t1) (a2 : t2) (a3 : t3) (a4 : t4) (a5 : t5) (a6 : t6) (a7 : t7) (h0 : p0 a0 a1 a2 a3 a4 a5 a6 a7) (h1 : p1 a0 a1 a2 a3 a4 a5 a6 a7) (h2 : p2 a0 a1 a2 a3 a4 a5 a6 a7) (h3 : p3 a0 a1 a2 a3 a4 a5 a6 a7) (h4 : p4 a0 a1 a2 a3 a4 a5 a6 a7) (h5 : p5 a0 a1 a2 a3 a4 a5 a6 a7) : ∃ a0 a1 a2 a3 a4 a5 a6 a7, p0 a0 a1 a2 a3 a4 a5 a6 a7 ∧ p1 a0 a1 a2 a3 a4 a5 a6 a7 ∧ p2 a0 a1 a2 a3 a4 a5 a6 a7 ∧ p3 a0 a1 a2 a3 a4 a5 a6 a7 ∧ p4 a0 a1 a2 a3 a4 a5 a6 a7 ∧ p5 a0 a1 a2 a3 a4 a5 a6 a7 := Exists.intro a0 (i7x6 a1 a2 a3 a4 a5 a6 a7 h0 h1 h2 h3 h4 h5)
theorem i8x7 {t0 t1 t2 t3 t4 t5 t6 t7 : Type} {p0 p1 p2 p3 p4 p5 p6 : t0 → t1 → t2 → t3 → t4 → t5 → t6 → t7 → Prop} (a0 : t0) (a1 : t1) (a2 : t2) (a3 : t3) (a4 : t4) (a5 : t5) (a6 : t6) (a7 : t7) (h0 : p0 a0 a1 a2 a3 a4 a5 a6 a7) (h1 : p1 a0 a1 a2 a3 a4 a5 a6 a7) (h2 : p2 a0 a1 a2 a3 a4 a5 a6 a7) (h3 : p3 a0 a1 a2 a3 a4 a5 a6 a7) (h4 : p4 a0 a1 a2 a3 a4 a5 a6 a7) (h5 : p5 a0 a1 a2 a3 a4 a5 a6 a7) (h6 : p6 a0 a1 a2 a3 a4 a5 a6 a7) : ∃ a0 a1 a2 a3 a4 a5 a6 a7, p0 a0 a1 a2 a3 a4 a5 a6 a7 ∧ p1 a0 a1 a2 a3 a4 a5 a6 a7 ∧ p2 a0 a1 a2 a3 a4 a5 a6 a7 ∧ p3 a0 a1 a2 a3 a4 a5 a6 a7 ∧ p4 a0 a1 a2 a3 a4 a5 a6 a7 ∧ p5 a0 a1 a2 a3 a4 a5 a6 a7 ∧ p6 a0 a1 a2 a3 a4 a5 a6 a7 := Exists.intro a0 (i7x7 a1 a2 a3 a4 a5 a6 a7 h0 h1 h2 h3 h4 h5 h6)
theorem i8x8 {t0 t1 t2 t3 t4 t5 t6 t7 : Type} {p0 p1 p2 p3 p4 p5 p6 p7 : t0 → t1 → t2 → t3 → t4 → t5 → t6 → t7 → Prop} (a0 : t0) (a1 : t1) (a2 : t2) (a3 : t3) (a4 : t4) (a5 : t5) (a6 : t6) (a7 : t7) (h0 : p0 a0 a1 a2 a3 a4 a5 a6 a7) (h1 : p1 a0 a1 a2 a3 a4 a5 a6 a7) (h2 : p2 a0 a1 a2 a3 a4 a5 a6 a7) (h3 : p3 a0 a1 a2 a3 a4 a5 a6 a7) (h4 : p4 a0 a1 a2 a3 a4 a5 a6 a7) (h5 : p5 a0 a1 a2 a3 a4 a5 a6 a7) (h6 : p6 a0 a1 a2 a3 a4 a5 a6 a7) (h7 : p7 a0 a1 a2 a3 a4 a5 a6 a7) : ∃ a0 a1 a2 a3 a4 a5 a6 a7, p0 a0 a1 a2 a3 a4 a5 a6 a7 ∧ p1 a0 a1 a2 a3 a4 a5 a6 a7 ∧ p2 a0 a1 a2 a3 a4 a5 a6 a7 ∧ p3 a0 a1 a2 a3 a4 a5 a6 a7 ∧ p4 a0 a1 a2 a3 a4 a5 a6 a7 ∧ p5 a0 a1 a2 a3 a4 a5 a6 a7 ∧ p6 a0 a1 a2 a3 a4 a5 a6 a7 ∧ p7 a0 a1 a2 a3 a4 a5 a6 a7 := Exists.intro a0 (i7x8 a1 a2 a3 a4 a5 a6 a7 h0 h1 h2 h3 h4 h5 h6 h7)
theorem i9x6 {t0 t1 t2 t3 t4 t5 t6 t7 t8 : Type} {p0 p1 p2 p3 p4 p5 : t0 → t1 → t2 → t3 → t4 → t5 → t6 → t7 → t8 → Prop} (a0 : t0) (a1 : t1) (a2 : t2) (a3 : t3) (a4 : t4) (a5 : t5) (a6 : t6) (a7 : t7) (a8 : t8) (h0 : p0 a0 a1 a2 a3 a4 a5 a6 a7 a8) (h1 : p1 a0 a1 a2 a3 a4 a5 a6 a7 a8) (h2 : p2 a0 a1 a2 a3 a4 a5 a6 a7 a8) (h3 : p3 a0 a1 a2 a3 a4 a5 a6 a7 a8) (h4 : p4 a0 a1 a2 a3 a4 a5 a6 a7 a8) (h5 : p5 a0 a1 a2 a3 a4 a5 a6 a7 a8) : ∃ a0 a1 a2 a3 a4 a5 a6 a7 a8, p0 a0 a1 a2 a3 a4 a5 a6 a7 a8 ∧ p1 a0 a1 a2 a3 a4 a5 a6 a7 a8 ∧ p2 a0 a1 a2 a3 a4 a5 a6 a7 a8 ∧ p3 a0 a1 a2 a3 a4 a5 a6 a7 a8 ∧ p4 a0 a1 a2 a3 a4 a5 a6 a7 a8 ∧ p5 a0 a1 a2 a3 a4 a5 a6 a7 a8 := Exists.intro a0 (i8x6 a1 a2 a3 a4 a5 a6 a7 a8 h0 h1 h2 h3 h4 h5)
theorem i9x8 {t0 t1 t2 t3 t4 t5 t6 t7 t8 : Type} {p0 p1 p2 p3 p4 p5 p6 p7 : t0 → t1 → t2 → t3 → t4 → t5 → t6 → t7 → t8 → Prop} (a0 : t0) (a1 : t1) (a2 : t2) (a3 : t3) (a4 : t4) (a5 : t5) (a6 : t6) (a7 : t7) (a8 : t8) (h0 : p0 a0 a1 a2 a3 a4 a5 a6 a7 a8) (h1 : p1 a0 a1 a2 a3 a4 a5 a6 a7 a8) (h2 : p2 a0 a1 a2 a3 a4 a5 a6 a7 a8) (h3 : p3 a0 a1 a2 a3 a4 a5 a6 a7 a8) (h4 : p4 a0 a1 a2 a3 a4 a5 a6 a7 a8) (h5 : p5 a0 a1 a2 a3 a4 a5 a6 a7 a8) (h6 : p6 a0 a1 a2 a3 a4 a5 a6 a7 a8) (h7 : p7 a0 a1 a2 a3 a4 a5 a6 a7 a8) : ∃ a0 a1 a2 a3 a4 a5 a6 a7 a8, p0 a0 a1 a2 a3 a4 a5 a6 a7 a8 ∧ p1 a0 a1 a2 a3 a4 a5 a6 a7 a8 ∧ p2 a0 a1 a2 a3 a4 a5 a6 a7 a8 ∧ p3 a0 a1 a2 a3 a4 a5 a6 a7 a8 ∧ p4 a0 a1 a2 a3 a4 a5 a6 a7 a8 ∧ p5 a0 a1 a2 a3 a4 a5 a6 a7 a8 ∧ p6 a0 a1 a2 a3 a4 a5 a6 a7 a8 ∧ p7 a0 a1 a2 a3 a4 a5 a6 a7 a8 := Exists.intro a0 (i8x8 a1 a2 a3 a4 a5 a6 a7 a8 h0 h1 h2 h3 h4 h5 h6 h7)
end Mine
section
open PySem PySem.W PySem.Calls PyProof.Rows
namespace Mine

noncomputable abbrev Vw := Addr → Option Obj
noncomputable abbrev St := List (Addr × (Obj → Prop))

structure Cx where
  prog : Program
  w : World
  K : Frag
  H : Heap
  os : OsState
  mg : Str → Option Value
  mb : Str → Option Value
  kin : K.In H
  gns : H.Ns mainGlobals mg
  bns : H.Ns builtinsNs mb
  bb : ∀ x : Str, x ≠ "__name__" → mb x = bootBuiltins x
  lim : H.NoLimit

noncomputable def Le (P P' : Vw) : Prop := ∀ a o, P a = some o → P' a = some o
theorem Le.refl (P : Vw) : Le P P := fun _ _ h => h
theorem Le.trans {P P' P'' : Vw} (x : Le P P') (y : Le P' P'') : Le P P'' := fun a o h => y a o (x a o h)
noncomputable def put (P : Vw) (a : Addr) (o : Obj) : Vw := fun b => if b = a then some o else P b
theorem le_put {P : Vw} {a : Addr} {o : Obj} (h : P a = none) : Le P (put P a o) := fun b o' e => by
  unfold put
  by_cases q : b = a
  · subst q; rw [h] at e; cases e
  · rw [if_neg q]; exact e
theorem put_self {P : Vw} {a : Addr} {o : Obj} : put P a o a = some o := by unfold put; rw [if_pos rfl]

structure Ok (c : Cx) (P : Vw) (σ : St) (τ : Vw) (h : Heap) : Prop where
  base : ∀ a o, c.H.get? a = some o → P a = some o
  per : ∀ a o, P a = some o → h.get? a = some o
  frm : ∀ a o, τ a = some o → h.get? a = some o
  dis : ∀ a o, P a = some o → τ a = none
  mu : ∀ x ∈ σ, (∃ o, h.get? x.1 = some o ∧ x.2 o) ∧ P x.1 = none ∧ τ x.1 = none
  nd : (σ.map (·.1)).Nodup

structure Gd (c : Cx) (P : Vw) (σ : St) (τ : Vw) (s : Shared) : Prop where
  ok : Ok c P σ τ s.heap
  gens : s.gens = #[]
  os : s.os = c.os

/-- the triple -/
noncomputable def T3 {α : Type} (c : Cx) (A : Around) (t : Sem α) (P : Vw) (σ : St) (Q : α → Vw → St → Prop) (E : Value → Vw → St → Prop) : Prop :=
  ∀ τ s, Gd c P σ τ s →
    wpAny (model c.prog c.w) A t
      (fun a s' => ∃ P' σ', Le P P' ∧ Gd c P' σ' τ s' ∧ Q a P' σ')
      (fun e s' => ∃ P' σ', Le P P' ∧ Gd c P' σ' τ s' ∧ E e P' σ') s

noncomputable def C3 (c : Cx) (A : Around) (cd : Code) (P : Vw) (σ : St) (R : Result → Vw → St → Prop) : Prop :=
  ∀ τ s, Gd c P σ τ s → codeAny (model c.prog c.w) A cd (fun r s' => ∃ P' σ', Le P P' ∧ Gd c P' σ' τ s' ∧ R r P' σ') s

section
variable {α β : Type} {c : Cx} {A : Around} {P : Vw} {σ : St} {E : Value → Vw → St → Prop}

theorem Gd.toks {τ : Vw} {s : Shared} (g : Gd c P σ τ s) (t : Nat) : Gd c P σ τ { s with toks := t } := ⟨g.ok, g.gens, g.os⟩
theorem Gd.kin {τ : Vw} {s : Shared} (g : Gd c P σ τ s) : c.K.In s.heap := fun a o e => g.ok.per _ _ (g.ok.base _ _ (c.kin a o e))
theorem Gd.keep {τ : Vw} {s : Shared} (g : Gd c P σ τ s) : ∀ b o, c.H.get? b = some o → s.heap.get? b = some o := fun a o e => g.ok.per _ _ (g.ok.base _ _ e)

theorem T3.pure {a : α} {Q : α → Vw → St → Prop} (h : Q a P σ) : T3 c A (Pure.pure a) P σ Q E := fun _ _ g => wpAny_pure ⟨P, σ, Le.refl _, g, h⟩
theorem T3.mono {t : Sem α} {Q Q' : α → Vw → St → Prop} {E' : Value → Vw → St → Prop} (h : T3 c A t P σ Q E) (hq : ∀ a P' σ', Le P P' → Q a P' σ' → Q' a P' σ') (he : ∀ e P' σ', Le P P' → E e P' σ' → E' e P' σ') : T3 c A t P σ Q' E' :=
  fun τ s g => wpAny_mono (h τ s g) (fun _ _ ⟨P', σ', l, g', q⟩ => ⟨P', σ', l, g', hq _ _ _ l q⟩) fun _ _ ⟨P', σ', l, g', q⟩ => ⟨P', σ', l, g', he _ _ _ l q⟩
theorem T3.conseq {t : Sem α} {Q Q' : α → Vw → St → Prop} (h : T3 c A t P σ Q E) (hq : ∀ a P' σ', Le P P' → Q a P' σ' → Q' a P' σ') : T3 c A t P σ Q' E :=
  h.mono hq fun _ _ _ _ e => e
theorem T3.le {t : Sem α} {Q : α → Vw → St → Prop} (h : T3 c A t P σ (fun a P' σ' => Le P P' → Q a P' σ') E) : T3 c A t P σ Q E := h.conseq fun _ _ _ l q => q l
theorem T3.bind {m : Sem α} {f : α → Sem β} {Q : β → Vw → St → Prop} (h : T3 c A m P σ (fun a P' σ' => T3 c A (f a) P' σ' Q E) E) : T3 c A (m >>= f) P σ Q E :=
  fun τ s g => wpAny_bind (wpAny_mono (h τ s g) (fun _ _ ⟨_, _, l, g', q⟩ => wpAny_mono (q τ _ g') (fun _ _ ⟨P2, σ2, l2, g2, q2⟩ => ⟨P2, σ2, l.trans l2, g2, q2⟩) fun _ _ ⟨P2, σ2, l2, g2, q2⟩ => ⟨P2, σ2, l.trans l2, g2, q2⟩) fun _ _ z => z)
theorem T3.map {m : Sem α} {f : α → β} {Q : β → Vw → St → Prop} (h : T3 c A m P σ (fun a P' σ' => Q (f a) P' σ') E) : T3 c A (f <$> m) P σ Q E :=
  fun τ s g => wpAny_map (h τ s g)
theorem T3.holding {vs : List Value} {m : Sem α} {Q : α → Vw → St → Prop} (h : T3 c A m P σ Q E) : T3 c A (PySem.holding vs m) P σ Q E := fun τ s g => wpAny_holding (h τ s g)
theorem T3.standAt {pos : Pos} {Q : Unit → Vw → St → Prop} (h : Q () P σ) : T3 c A (PySem.standAt pos) P σ Q E := fun _ _ g => wpAny_standAt ⟨P, σ, Le.refl _, g, h⟩
theorem T3.rule {tag : String} {Q : Unit → Vw → St → Prop} (h : Q () P σ) : T3 c A (PySem.rule tag) P σ Q E := fun _ _ g => wpAny_rule ⟨P, σ, Le.refl _, g, h⟩
theorem T3.point {Q : Unit → Vw → St → Prop} (h : Q () P σ) : T3 c A PySem.point P σ Q E := fun _ _ g => wpAny_point ⟨P, σ, Le.refl _, g, h⟩
theorem T3.throw {e : Value} {Q : α → Vw → St → Prop} (h : E e P σ) : T3 c A (MonadExcept.throw e : Sem α) P σ Q E := fun _ _ g => wpAny_throw ⟨P, σ, Le.refl _, g, h⟩
theorem T3.loadPart {a : Addr} {part : Option Value} {o : Obj} {Q : Obj → Vw → St → Prop} (ho : P a = some o) (h : Q o P σ) : T3 c A (PySem.loadPart a part) P σ Q E :=
  fun _ _ g => wpAny_loadPart (g.ok.per _ _ ho) ⟨P, σ, Le.refl _, g, h⟩
theorem T3.load {a : Addr} {o : Obj} {Q : Obj → Vw → St → Prop} (ho : P a = some o) (h : Q o P σ) : T3 c A (PySem.load a) P σ Q E :=
  fun _ _ g => wpAny_load (g.ok.per _ _ ho) ⟨P, σ, Le.refl _, g, h⟩
theorem T3.loadPartM {a : Addr} {φ : Obj → Prop} {part : Option Value} {Q : Obj → Vw → St → Prop} (hm : (a, φ) ∈ σ) (h : ∀ o, φ o → Q o P σ) : T3 c A (PySem.loadPart a part) P σ Q E :=
  fun _ _ g => by
    refine e0x3 (g.ok.mu _ hm) ?_; rintro hq1z _ _; refine e1x2 (hq1z) ?_; clear hq1z; rintro o ho hφ
    exact wpAny_loadPart ho ⟨P, σ, Le.refl _, g, h o hφ⟩
theorem T3.fresh {Q : Tok → Vw → St → Prop} (h : ∀ t, Q t P σ) : T3 c A PySem.fresh P σ Q E := fun _ _ g => wpAny_fresh ⟨P, σ, Le.refl _, g.toks _, h _⟩
theorem T3.eq {t t' : Sem α} {Q : α → Vw → St → Prop} (e : t = t') (h : T3 c A t' P σ Q E) : T3 c A t P σ Q E := e ▸ h
theorem T3.ite_t {p : Prop} [Decidable p] {a b : Sem α} {Q : α → Vw → St → Prop} (hp : p) (h : T3 c A a P σ Q E) : T3 c A (if p then a else b) P σ Q E := by rw [if_pos hp]; exact h
theorem T3.ite_f {p : Prop} [Decidable p] {a b : Sem α} {Q : α → Vw → St → Prop} (hp : ¬ p) (h : T3 c A b P σ Q E) : T3 c A (if p then a else b) P σ Q E := by rw [if_neg hp]; exact h

/-- a tree that reads and spends tokens alone -/
theorem T3.look {t : Sem α} {r : α} {Q : α → Vw → St → Prop} (h : ∀ τ s, Gd c P σ τ s → Looks (model c.prog c.w) s.heap t r) (q : Q r P σ) : T3 c A t P σ Q E :=
  fun τ s g => (h τ s g).here ⟨P, σ, Le.refl _, g, q⟩
theorem T3.pur {t : Sem α} {R : α → Prop} {Q : α → Vw → St → Prop}
    (h : ∀ τ s, Gd c P σ τ s → ∀ (Q' : α → Shared → Prop) (E' : Value → Shared → Prop), (∀ a k, R a → Q' a { s with toks := k }) → wpAny (model c.prog c.w) A t Q' E' s) (q : ∀ a, R a → Q a P σ) : T3 c A t P σ Q E :=
  fun τ s g => h τ s g _ _ fun a k r => ⟨P, σ, Le.refl _, g.toks k, q a r⟩

theorem Ok.fresh {τ : Vw} {h : Heap} (k : Ok c P σ τ h) : P h.objs.size = none ∧ τ h.objs.size = none ∧ ∀ x ∈ σ, x.1 ≠ h.objs.size := by
  refine i0x3 ?_ ?_ (fun x hx e => ?_)
  · cases q : P h.objs.size with
    | none => rfl
    | some o => exact absurd (Heap.lt_size (k.per _ _ q)) (Nat.lt_irrefl _)
  · cases q : τ h.objs.size with
    | none => rfl
    | some o => exact absurd (Heap.lt_size (k.frm _ _ q)) (Nat.lt_irrefl _)
  · obtain ⟨⟨o, ho, _⟩, _⟩ := k.mu x hx
    rw [e] at ho
    exact absurd (Heap.lt_size ho) (Nat.lt_irrefl _)

theorem Ok.pushP {τ : Vw} {h : Heap} {o : Obj} (hf : o.isFreed = false) (k : Ok c P σ τ h) : Ok c (put P h.objs.size o) σ τ (h.push o) := by
  refine e0x3 (k.fresh) ?_; rintro f1 f2 f3
  refine ⟨fun a o' e => le_put f1 _ _ (k.base a o' e), fun a o' e => ?_, fun a o' e => Heap.get?_push_of_some _ (k.frm a o' e), fun a o' e => ?_, fun x hx => ?_, k.nd⟩
  · unfold put at e
    split at e
    · rename_i q; subst q; cases e; exact Heap.get?_push_size _ hf
    · exact Heap.get?_push_of_some _ (k.per a o' e)
  · unfold put at e
    split at e
    · rename_i q; subst q; exact f2
    · exact k.dis a o' e
  · refine e0x3 (k.mu x hx) ?_; rintro hq2z p t; refine e1x2 (hq2z) ?_; clear hq2z; rintro o' ho hφ
    refine i0x3 ⟨o', Heap.get?_push_of_some _ ho, hφ⟩ ?_ t
    exact (if_neg (f3 x hx)).trans p
theorem Ok.pushM {τ : Vw} {h : Heap} {o : Obj} {φ : Obj → Prop} (hf : o.isFreed = false) (hφ : φ o) (k : Ok c P σ τ h) : Ok c P ((h.objs.size, φ) :: σ) τ (h.push o) := by
  refine e0x3 (k.fresh) ?_; rintro f1 f2 f3
  refine ⟨k.base, fun a o' e => Heap.get?_push_of_some _ (k.per a o' e), fun a o' e => Heap.get?_push_of_some _ (k.frm a o' e), k.dis, fun x hx => ?_, ?_⟩
  · rcases List.mem_cons.mp hx with rfl | hx
    · exact i0x3 ⟨o, Heap.get?_push_size _ hf, hφ⟩ f1 f2
    · refine e0x3 (k.mu x hx) ?_; rintro hq3z p t; refine e1x2 (hq3z) ?_; clear hq3z; rintro o' ho hφ
      exact i0x3 ⟨o', Heap.get?_push_of_some _ ho, hφ⟩ p t
  · rw [List.map_cons]
    refine List.nodup_cons.mpr ⟨fun hm => ?_, k.nd⟩
    refine e1x2 (List.mem_map.mp hm) ?_; rintro x hx e
    exact f3 x hx e
theorem Ok.perm {τ : Vw} {h : Heap} {σ' : St} (p : σ.Perm σ') (k : Ok c P σ τ h) : Ok c P σ' τ h :=
  ⟨k.base, k.per, k.frm, k.dis, fun x hx => k.mu x (p.mem_iff.mpr hx), (p.map _).nodup_iff.mp k.nd⟩
theorem Ok.drop {τ : Vw} {h : Heap} {x} (k : Ok c P (x :: σ) τ h) : Ok c P σ τ h :=
  ⟨k.base, k.per, k.frm, k.dis, fun y hy => k.mu y (.tail _ hy), (List.nodup_cons.mp k.nd).2⟩
theorem Ok.weak {τ : Vw} {h : Heap} {a : Addr} {φ φ' : Obj → Prop} (w : ∀ o, φ o → φ' o) (k : Ok c P ((a, φ) :: σ) τ h) : Ok c P ((a, φ') :: σ) τ h :=
  ⟨k.base, k.per, k.frm, k.dis, fun y hy => by
    rcases List.mem_cons.mp hy with rfl | hy
    · obtain ⟨⟨o, ho, hφ⟩, r⟩ := k.mu _ (.head _)
      exact ⟨⟨o, ho, w o hφ⟩, r⟩
    · exact k.mu y (.tail _ hy), k.nd⟩
theorem Ok.freeze {τ : Vw} {h : Heap} {a : Addr} {φ : Obj → Prop} (k : Ok c P ((a, φ) :: σ) τ h) : ∃ o, φ o ∧ P a = none ∧ Ok c (put P a o) σ τ h := by
  refine e0x3 (k.mu _ (.head _)) ?_; rintro hq4z hp ht; refine e1x2 (hq4z) ?_; clear hq4z; rintro o ho hφ
  have hp : P a = none := hp
  have ht : τ a = none := ht
  have ho : h.get? a = some o := ho
  have nd := List.nodup_cons.mp k.nd
  refine ⟨o, hφ, hp, fun b o' e => le_put hp _ _ (k.base b o' e), fun b o' e => ?_, k.frm, fun b o' e => ?_, fun x hx => ?_, nd.2⟩
  · unfold put at e
    split at e
    · rename_i q; subst q; cases e; exact ho
    · exact k.per b o' e
  · unfold put at e
    split at e
    · rename_i q; subst q; exact ht
    · exact k.dis b o' e
  · refine e0x3 (k.mu x (.tail _ hx)) ?_; rintro e p t
    refine i0x3 e ?_ t
    exact (if_neg fun q : x.1 = a => nd.1 (List.mem_map.mpr ⟨x, hx, q⟩)).trans p
theorem Ok.update {τ : Vw} {h h' : Heap} {a : Addr} {φ φ' : Obj → Prop} (k : Ok c P ((a, φ) :: σ) τ h) (hs : ∀ b, b ≠ a → ∀ o, h.get? b = some o → h'.get? b = some o) (hn : ∃ o, h'.get? a = some o ∧ φ' o) : Ok c P ((a, φ') :: σ) τ h' := by
  refine e0x3 (k.mu _ (.head _)) ?_; rintro _ hp ht
  have hp : P a = none := hp
  have ht : τ a = none := ht
  have nd := List.nodup_cons.mp k.nd
  refine ⟨k.base, fun b o e => hs b (fun q => ?_) o (k.per b o e), fun b o e => hs b (fun q => ?_) o (k.frm b o e), k.dis, fun x hx => ?_, k.nd⟩
  · subst q; rw [hp] at e; cases e
  · subst q; rw [ht] at e; cases e
  · rcases List.mem_cons.mp hx with rfl | hx
    · exact i0x3 hn hp ht
    · obtain ⟨⟨o, ho, hφ⟩, r⟩ := k.mu x (.tail _ hx)
      exact ⟨⟨o, hs _ (fun q => nd.1 (List.mem_map.mpr ⟨x, hx, q⟩)) o ho, hφ⟩, r⟩

theorem T3.allocP {o : Obj} {Q : Addr → Vw → St → Prop} (h : ∀ a, P a = none → Q a (put P a o) σ) (hf : o.isFreed = false := by rfl) : T3 c A (PySem.alloc o) P σ Q E :=
  fun _ _ g => wpAny_alloc ⟨_, σ, le_put g.ok.fresh.1, ⟨g.ok.pushP hf, g.gens, g.os⟩, h _ g.ok.fresh.1⟩
theorem T3.allocM {o : Obj} {φ : Obj → Prop} {Q : Addr → Vw → St → Prop} (hφ : φ o) (h : ∀ a, P a = none → Q a P ((a, φ) :: σ)) (hf : o.isFreed = false := by rfl) : T3 c A (PySem.alloc o) P σ Q E :=
  fun _ _ g => wpAny_alloc ⟨P, _, Le.refl _, ⟨g.ok.pushM hf hφ, g.gens, g.os⟩, h _ g.ok.fresh.1⟩
theorem T3.perm {t : Sem α} {σ' : St} {Q : α → Vw → St → Prop} (p : σ.Perm σ') (h : T3 c A t P σ' Q E) : T3 c A t P σ Q E := fun τ s g => h τ s ⟨g.ok.perm p, g.gens, g.os⟩
theorem T3.drop {t : Sem α} {x} {Q : α → Vw → St → Prop} (h : T3 c A t P σ Q E) : T3 c A t P (x :: σ) Q E := fun τ s g => h τ s ⟨g.ok.drop, g.gens, g.os⟩
theorem T3.weak {t : Sem α} {a : Addr} {φ φ' : Obj → Prop} {Q : α → Vw → St → Prop} (w : ∀ o, φ o → φ' o) (h : T3 c A t P ((a, φ') :: σ) Q E) : T3 c A t P ((a, φ) :: σ) Q E := fun τ s g => h τ s ⟨g.ok.weak w, g.gens, g.os⟩
theorem T3.freeze {t : Sem α} {a : Addr} {φ : Obj → Prop} {Q : α → Vw → St → Prop} (h : ∀ o, φ o → P a = none → T3 c A t (put P a o) σ Q E) : T3 c A t P ((a, φ) :: σ) Q E := fun τ s g => by
  refine e1x3 (g.ok.freeze) ?_; rintro o hφ hp k
  exact wpAny_mono (h o hφ hp τ s ⟨k, g.gens, g.os⟩) (fun _ _ ⟨P2, σ2, l2, g2, q2⟩ => ⟨P2, σ2, (le_put hp).trans l2, g2, q2⟩) fun _ _ ⟨P2, σ2, l2, g2, q2⟩ => ⟨P2, σ2, (le_put hp).trans l2, g2, q2⟩
theorem T3.updatePart {a : Addr} {part : Option Value} {f : Obj → Obj} {φ φ' : Obj → Prop} {Q : Unit → Vw → St → Prop} (hf : ∀ o, φ o → φ' (f o) ∧ (f o).isFreed = false) (h : Q () P ((a, φ') :: σ)) : T3 c A (PySem.updatePart a part f) P ((a, φ) :: σ) Q E :=
  fun _ s g => by
    obtain ⟨⟨o, ho, hφ⟩, _⟩ := g.ok.mu _ (.head _)
    exact wpAny_updatePart ho ⟨P, _, Le.refl _, ⟨g.ok.update (fun b nb o e => ((Heap.SameBut.update s.heap a f).2 b nb).trans e) ⟨_, Heap.get?_update_self _ ho (hf o hφ).2, (hf o hφ).1⟩, g.gens, g.os⟩, h⟩

/-- the frame rule -/
theorem frame_in {τ : Vw} {h : Heap} {σ₁ σ₂ : St} (k : Ok c P (σ₁ ++ σ₂) τ h) : ∃ τ', Ok c P σ₁ τ' h ∧ ∀ P' σ₁' h', Ok c P' σ₁' τ' h' → Ok c P' (σ₁' ++ σ₂) τ h' := by
  have hn := k.nd
  rw [List.map_append, List.nodup_append] at hn
  refine e0x3 (hn) ?_; rintro n1 n2 n3
  classical
  refine i1x2 (fun a => if a ∈ σ₂.map (·.1) then h.get? a else τ a) ⟨k.base, k.per, fun a o e => ?_, fun a o e => ?_, fun x hx => ?_, n1⟩ (fun P' σ₁' h' k' => ?_)
  · try dsimp only at e
    split at e
    · exact e
    · exact k.frm a o e
  · try dsimp only
    rw [if_neg]
    · exact k.dis a o e
    · intro hm
      refine e1x2 (List.mem_map.mp hm) ?_; rintro x hx hr6z; subst hr6z
      rw [(k.mu x (List.mem_append_right _ hx)).2.1] at e; cases e
  · refine e0x3 (k.mu x (List.mem_append_left _ hx)) ?_; rintro p q r
    refine i0x3 p q ?_
    try dsimp only
    rw [if_neg]
    · exact r
    · intro hm
      exact n3 _ (List.mem_map_of_mem hx) _ hm rfl
  · have off : ∀ x ∈ σ₂, ∀ o, h.get? x.1 = some o → (fun a => if a ∈ σ₂.map (·.1) then h.get? a else τ a) x.1 = some o := fun x hx o e => by
      try dsimp only
      rw [if_pos (List.mem_map_of_mem hx)]; exact e
    refine ⟨k'.base, k'.per, fun a o e => ?_, fun a o e => ?_, fun x hx => ?_, ?_⟩
    · refine k'.frm a o ?_
      try dsimp only
      rw [if_neg]
      · exact e
      · intro hm
        refine e1x2 (List.mem_map.mp hm) ?_; rintro x hx hr7z; subst hr7z
        rw [(k.mu x (List.mem_append_right _ hx)).2.2] at e; cases e
    · have z := k'.dis a o e
      try dsimp only at z
      split at z
      · rename_i hm
        refine e1x2 (List.mem_map.mp hm) ?_; rintro x hx hr8z; subst hr8z
        obtain ⟨⟨o', ho, _⟩, _⟩ := k.mu x (List.mem_append_right _ hx)
        rw [ho] at z; cases z
      · exact z
    · rcases List.mem_append.mp hx with hx | hx
      · refine e0x3 (k'.mu x hx) ?_; rintro p q r
        refine i0x3 p q ?_
        try dsimp only at r
        split at r
        · rename_i hm
          refine e1x2 (List.mem_map.mp hm) ?_; rintro y hy e
          exact e ▸ (k.mu y (List.mem_append_right _ hy)).2.2
        · exact r
      · refine e0x3 (k.mu x (List.mem_append_right _ hx)) ?_; rintro hq9z q r; refine e1x2 (hq9z) ?_; clear hq9z; rintro o ho hφ
        refine i0x3 ⟨o, k'.frm _ _ (off x hx o ho), hφ⟩ ?_ r
        cases z : P' x.1 with
        | none => rfl
        | some o' =>
          have y := k'.dis _ _ z
          rw [show (if x.1 ∈ List.map (fun x => x.1) σ₂ then h.get? x.1 else τ x.1) = some o from off x hx o ho] at y; cases y
    · rw [List.map_append, List.nodup_append]
      refine i0x3 k'.nd n2 (fun a ha b hb e => ?_)
      subst e
      refine e1x2 (List.mem_map.mp ha) ?_; rintro x hx hr10z; subst hr10z
      refine e1x2 (List.mem_map.mp hb) ?_; rintro y hy e
      have r := (k'.mu x hx).2.2
      obtain ⟨⟨o, ho, _⟩, _⟩ := k.mu y (List.mem_append_right _ hy)
      rw [← e, show (if y.1 ∈ List.map (fun x => x.1) σ₂ then h.get? y.1 else τ y.1) = some o from off y hy o ho] at r; cases r

theorem T3.frame {t : Sem α} {σ₁ σ₂ : St} {Q₁ Q : α → Vw → St → Prop} {E₁ : Value → Vw → St → Prop} (p : σ.Perm (σ₁ ++ σ₂)) (h : T3 c A t P σ₁ Q₁ E₁) (re : St → St) (hre : ∀ σ', (σ' ++ σ₂).Perm (re σ'))
    (k : ∀ a P' σ', Le P P' → Q₁ a P' σ' → Q a P' (re σ')) (ke : ∀ a P' σ', Le P P' → E₁ a P' σ' → E a P' (re σ')) : T3 c A t P σ Q E := fun τ s g => by
  refine e1x2 (frame_in (g.ok.perm p)) ?_; rintro τ' k1 k2
  exact wpAny_mono (h τ' s ⟨k1, g.gens, g.os⟩) (fun _ _ ⟨P2, σ2, l2, g2, q2⟩ => ⟨P2, _, l2, ⟨(k2 _ _ _ g2.ok).perm (hre _), g2.gens, g2.os⟩, k _ _ _ l2 q2⟩)
    fun _ _ ⟨P2, σ2, l2, g2, q2⟩ => ⟨P2, _, l2, ⟨(k2 _ _ _ g2.ok).perm (hre _), g2.gens, g2.os⟩, ke _ _ _ l2 q2⟩

/-! names -/
noncomputable abbrev Lo := List (Str × Value)
noncomputable def NsP (m : Lo) (o : Obj) : Prop := ∃ es ep, o.data = .dict es ep ∧ StrKeys es ∧ ∀ x v, m.lookup x = some v → nsFind es x = some v
theorem ns_of {h : Heap} {a : Addr} {o : Obj} {m : Lo} (e : h.get? a = some o) (n : NsP m o) : ∃ mf : Str → Option Value, h.Ns a mf ∧ ∀ x v, m.lookup x = some v → mf x = some v :=
  let ⟨es, ep, x, y, z⟩ := n; ⟨nsFind es, ⟨o, es, ep, e, x, y, fun _ => rfl⟩, z⟩
theorem of_ns {h : Heap} {a : Addr} {m : Lo} {mf : Str → Option Value} (n : h.Ns a mf) (z : ∀ x v, m.lookup x = some v → mf x = some v) : ∃ o, h.get? a = some o ∧ NsP m o :=
  let ⟨o, es, ep, e, x, y, q⟩ := n; ⟨o, e, es, ep, x, y, fun k v hv => (q k).trans (z k v hv)⟩
theorem Gd.ns {τ : Vw} {s : Shared} {L : Addr} {m : Lo} (g : Gd c P ((L, NsP m) :: σ) τ s) : ∃ mf : Str → Option Value, s.heap.Ns L mf ∧ ∀ x v, m.lookup x = some v → mf x = some v := by
  obtain ⟨⟨o, ho, n⟩, _⟩ := g.ok.mu _ (.head _)
  exact ns_of ho n

theorem T3.ld {env : Env} {x : Str} {m : Lo} {v : Value} {Q : Value → Vw → St → Prop} (hk : env.scope.kind = .function) (hl : env.kindOf x = some .local) (hv : m.lookup x = some v) (h : Q v P ((env.locals, NsP m) :: σ)) :
    T3 c A (loadName env x) P ((env.locals, NsP m) :: σ) Q E := fun _ _ g => by
  refine e1x2 (g.ns) ?_; rintro mf n z
  exact wpAny_loadName_local hk hl n (z _ _ hv) ⟨P, _, Le.refl _, g, h⟩
theorem lookup_set {m : Lo} {mf : Str → Option Value} {x : Str} {v : Value} (z : ∀ x v, m.lookup x = some v → mf x = some v) : ∀ y u, ((x, v) :: m).lookup y = some u → (fun y => if y = x then some v else mf y) y = some u := by
  intro y u e
  rw [List.lookup_cons] at e
  by_cases q : y = x
  · subst q
    rw [beq_self_eq_true] at e
    simpa using e
  · have : (y == x) = false := by simpa using q
    rw [this] at e
    simp only [q, if_false]
    exact z y u e
theorem T3.st {env : Env} {x : Str} {m : Lo} {v : Value} {Q : Unit → Vw → St → Prop} (hl : env.kindOf x = some .local) (h : Q () P ((env.locals, NsP ((x, v) :: m)) :: σ))
    (hp : (env.scope.kind == .class || (env.scope.kind == .module && env.locals != env.globals)) = false) : T3 c A (storeName env x v) P ((env.locals, NsP m) :: σ) Q E := fun _ s g => by
  refine e1x2 (g.ns) ?_; rintro mf n z
  exact wpAny_storeName_local hl n (fun h' hn hs => ⟨P, _, Le.refl _, ⟨g.ok.update (fun b nb o e => (hs.2 b nb).trans e) (of_ns hn (lookup_set z)), g.gens, g.os⟩, h⟩) hp
theorem T3.forget {α : Type} {t : Sem α} {L : Addr} {m m' : Lo} {Q : α → Vw → St → Prop} (hm : ∀ x v, m'.lookup x = some v → m.lookup x = some v) (h : T3 c A t P ((L, NsP m') :: σ) Q E) : T3 c A t P ((L, NsP m) :: σ) Q E :=
  T3.weak (fun _ ⟨es, ep, x, y, z⟩ => ⟨es, ep, x, y, fun k v e => z k v (hm k v e)⟩) h
theorem T3.gl {env : Env} {x : Str} {v : Value} {pos : Pos} {Q : Value → Vw → St → Prop} (he : env.globals = mainGlobals) (hk : env.scope.kind = .function) (hx : env.kindOf x = some .globalImplicit) (e : nsIn c.K mainGlobals x = some (some v)) (h : Q v P σ)
    (hd : (x == ("__debug__" : Str)) = false) : T3 c A (eval (.Name x pos) env) P σ Q E := fun _ s g =>
  Calls.Name_function_global hk hx (Calls.loadGlobal_global (env := env) (he ▸ c.gns.keeps g.keep) (mg_of (c.kin.keeps fun _ _ e => e) c.gns e) ⟨P, _, Le.refl _, g, h⟩) hd
theorem T3.bi {env : Env} {x : Str} {v : Value} {pos : Pos} {Q : Value → Vw → St → Prop} (he : env.globals = mainGlobals) (hb : env.builtins = builtinsNs) (hk : env.scope.kind = .function) (hx : env.kindOf x = some .globalImplicit) (e : nsIn c.K mainGlobals x = some none) (hv : bootBuiltins x = some v) (hn : x ≠ "__name__") (h : Q v P σ)
    (hd : (x == ("__debug__" : Str)) = false) : T3 c A (eval (.Name x pos) env) P σ Q E := fun _ s g =>
  Calls.Name_function_global hk hx (Calls.loadGlobal_builtin (env := env) (he ▸ c.gns.keeps g.keep) (mg_none_of c.kin c.gns e) (hb ▸ c.bns.keeps g.keep) ((c.bb x hn).trans hv) ⟨P, _, Le.refl _, g, h⟩) hd

/-! calls -/
noncomputable def Ret (Q : Value → Vw → St → Prop) (E : Value → Vw → St → Prop) : Result → Vw → St → Prop
  | .ok (.ret v) => Q v
  | .ok _ => fun _ _ => False
  | .error e => E e
theorem T3.call {f : Value} {pos : List Value} {kw : List (Str × Value)} {Q : Value → Vw → St → Prop} (h : C3 c A (.call f ⟨pos, kw⟩) P σ (Ret Q E)) : T3 c A (PySem.call f pos kw) P σ Q E :=
  fun τ s g => wpAny_call (codeAny_mono (h τ s g) fun r s' ⟨P', σ', l, g', q⟩ => by
    rcases r with e | (_ | _ | _ | v)
    · exact i2x3 P' σ' l g' q
    · exact q.elim
    · exact q.elim
    · exact q.elim
    · exact ⟨P', σ', l, g', q⟩)

end
end Mine
end
section
open PySem PySem.W PySem.Calls PyProof.Rows
namespace Mine
/-! what comes behind a step, by name -/
noncomputable abbrev KO (α : Type) := α → Vw → St → Prop
noncomputable abbrev NoE : Value → Vw → St → Prop := fun _ _ _ => False
section
variable (c : Cx) (A : Around) (env : Env) (E : KO Value)
noncomputable abbrev kBin2 (op : Operator) (a : Value) (Q : KO Value) : KO Value := fun b P σ => T3 c A (binaryOp op a b) P σ Q E
noncomputable abbrev kBin1 (op : Operator) (r : Expr) (Q : KO Value) : KO Value := fun a P σ => T3 c A (eval r env) P σ (kBin2 c A E op a Q) E
noncomputable abbrev kUn (op : UnaryOp) (Q : KO Value) : KO Value := fun a P σ => T3 c A (unaryOp op a) P σ Q E
noncomputable abbrev kIfx (b o : Expr) (Q : KO Value) : KO Bool := fun v P σ => (v = true → T3 c A (eval b env) P σ Q E) ∧ (v = false → T3 c A (eval o env) P σ Q E)
noncomputable abbrev kCmp2 (op : CmpOp) (a : Value) (Q : KO Value) : KO Value := fun b P σ => T3 c A (compareOp op a b) P σ Q E
noncomputable abbrev kCmp1 (op : CmpOp) (r : Expr) (Q : KO Value) : KO Value := fun a P σ => T3 c A (eval r env) P σ (kCmp2 c A E op a Q) E
noncomputable abbrev kAttr (n : Str) (Q : KO Value) : KO Value := fun v P σ => T3 c A (getAttr v n true) P σ Q E
noncomputable abbrev kTru (Q : KO Bool) : KO Value := fun v P σ => T3 c A (truthy v) P σ Q E
noncomputable abbrev kNot (Q : KO Bool) : KO Bool := fun b P σ => Q (!b) P σ
noncomputable abbrev kAnd (rest : List Expr) (Q : KO Bool) : KO Bool := fun b P σ => (b = true → T3 c A (allTrue .And rest env) P σ Q E) ∧ (b = false → Q false P σ)
noncomputable abbrev kOr (rest : List Expr) (Q : KO Bool) : KO Bool := fun b P σ => (b = true → Q true P σ) ∧ (b = false → T3 c A (allTrue .Or rest env) P σ Q E)
/-- the arguments' trees, none starred -/
noncomputable def argTs (es : List Expr) (env : Env) : List (Bool × Sem Value) := es.map fun e => (false, eval e env)
noncomputable abbrev kAr2 (v : Value) (Q : KO (List Value)) : KO (List Value) := fun vs P σ => Q (v :: vs) P σ
noncomputable abbrev kAr1 (rest : List Expr) (Q : KO (List Value)) : KO Value := fun v P σ => T3 c A (spliced (argTs rest env)) P σ (kAr2 v Q) E
noncomputable abbrev kTup (Q : KO Value) : KO (List Value) := fun vs P σ => T3 c A (newTuple vs) P σ Q E
noncomputable abbrev kLst (Q : KO Value) : KO (List Value) := fun vs P σ => T3 c A (newList vs) P σ Q E
noncomputable abbrev kCl (f : Value) (Q : KO Value) : KO (List Value) := fun vs P σ => T3 c A (PySem.call f vs) P σ Q E
noncomputable abbrev kCl1 (f o : Value) (Q : KO Value) : KO (List Value) := fun vs P σ => T3 c A (PySem.call f (o :: vs)) P σ Q E
noncomputable abbrev kCn (pos : Pos) (es : List Expr) (Q : KO Value) : KO Value := fun f P σ => T3 c A (PySem.callWith pos f [] (argTs es env) []) P σ Q E
noncomputable abbrev kCm2 (pos : Pos) (es : List Expr) (Q : KO Value) : KO (Value × List Value) := fun fm P σ => T3 c A (PySem.callWith pos fm.1 fm.2 (argTs es env) []) P σ Q E
noncomputable abbrev kCm1 (pos : Pos) (o : Expr) (n : Str) (es : List Expr) (Q : KO Value) : KO Value := fun ov P σ => T3 c A (getMethod ov n (do return (← importBound o env).getD true)) P σ (kCm2 c A env E pos es Q) E
noncomputable abbrev kIf (body orelse : List Stmt) (Q : KO Flow) : KO Bool := fun b P σ => (b = true → T3 c A (execs body env) P σ Q E) ∧ (b = false → T3 c A (execs orelse env) P σ Q E)
noncomputable abbrev kRet (Q : KO Flow) : KO Value := fun v P σ => Q (.ret v) P σ
noncomputable abbrev kNext (Q : KO Flow) : KO Unit := fun _ P σ => Q .next P σ
noncomputable abbrev kNextV (Q : KO Flow) : KO Value := fun _ P σ => Q .next P σ
noncomputable abbrev kAA (n : Str) (v : Value) (Q : KO Unit) : KO Value := fun ov P σ => T3 c A (setAttr ov n v) P σ Q E
noncomputable abbrev kAS2 (ov v : Value) (Q : KO Unit) : KO Value := fun iv P σ => T3 c A (setItem ov iv v) P σ Q E
noncomputable abbrev kAS1 (i : Expr) (v : Value) (Q : KO Unit) : KO Value := fun ov P σ => T3 c A (eval i env) P σ (kAS2 c A E ov v Q) E
noncomputable abbrev kAsg (t : Expr) (Q : KO Flow) : KO Value := fun v P σ => T3 c A (assign t env v) P σ (kNext Q) E
noncomputable abbrev kR (Q : KO Flow) : KO Result := fun r => match r with | .ok f => Q f | .error _ => fun _ _ => False
noncomputable abbrev kFor (target : Expr) (body orelse : List Stmt) (R : KO Result) : KO Value := fun it P σ => C3 c A (.forLoop target it body orelse env) P σ R
noncomputable abbrev kFor1 (target : Expr) (body orelse : List Stmt) (R : KO Result) : KO Value := fun x P σ => T3 c A (pyIter x) P σ (kFor c A env target body orelse R) E
noncomputable abbrev kLp (R : KO Result) (J : Vw → St → Prop) : KO Flow := fun f P σ => match f with | .next => J P σ | .cont => J P σ | .brk => R (.ok .next) P σ | .ret v => R (.ok (.ret v)) P σ
noncomputable abbrev kDn (R : KO Result) : KO Flow := fun f P σ => R (.ok f) P σ
noncomputable abbrev kWt (body orelse : List Stmt) (R : KO Result) (J : Vw → St → Prop) : KO Bool := fun b P σ => (b = true → T3 c A (execs body env) P σ (kLp R J) NoE) ∧ (b = false → T3 c A (execs orelse env) P σ (kDn R) NoE)
noncomputable abbrev kBd (body : List Stmt) (R : KO Result) (J : Vw → St → Prop) : KO Unit := fun _ P σ => T3 c A (execs body env) P σ (kLp R J) NoE
noncomputable abbrev kAo (ts : List (Value → Sem Unit)) (xs : List Value) (Q : KO Unit) : KO Unit := fun _ P σ => T3 c A (assignInOrder ts xs) P σ Q E
noncomputable abbrev kAn (t : Expr) (v : Value) (Q : KO Unit) : KO Unit := fun _ P σ => T3 c A (assign t env v) P σ Q E
end
section
variable {α β : Type} {c : Cx} {A : Around} {P : Vw} {σ : St} {E : Value → Vw → St → Prop} {env : Env} {Q : Value → Vw → St → Prop} {pos : Pos}

theorem yes {b : Bool} {p q : Prop} (hb : b = true) (h : p) : (b = true → p) ∧ (b = false → q) := ⟨fun _ => h, fun e => absurd (hb.symm.trans e) (by decide)⟩
theorem no {b : Bool} {p q : Prop} (hb : b = false) (h : q) : (b = true → p) ∧ (b = false → q) := ⟨fun e => absurd (hb.symm.trans e) (by decide), fun _ => h⟩

/-! expressions -/
theorem T3.nm {x : Str} (hd : (x == ("__debug__" : Str)) = false) (h : T3 c A (loadName env x) P σ Q E) : T3 c A (eval (.Name x pos) env) P σ Q E := by
  rw [arm_eval_Name]
  refine T3.bind (T3.standAt ?_)
  rw [hd]
  exact h
theorem T3.cint {i : Int} {k : Nat} (h : ∀ t, Q (.int i t) P σ) : T3 c A (eval (.Constant (.int i) k pos) env) P σ Q E :=
  fun _ s g => show wpAny _ _ (mkInt i) _ _ s from wpAny_mkInt ⟨P, σ, Le.refl _, g.toks _, h _⟩
theorem T3.cstr {x : Str} {k : Nat} (h : ∀ t, Q (.str x t) P σ) : T3 c A (eval (.Constant (.str x) k pos) env) P σ Q E :=
  fun _ s g => Constant_str ⟨P, σ, Le.refl _, g.toks _, h _⟩
theorem T3.cnone {k : Nat} (h : Q .none P σ) : T3 c A (eval (.Constant .none k pos) env) P σ Q E := T3.pure h
theorem T3.cbool {b : Bool} {k : Nat} (h : Q (.bool b) P σ) : T3 c A (eval (.Constant (.bool b) k pos) env) P σ Q E := T3.pure h
theorem T3.operate {vs : List Value} {m : Sem Value} (h : T3 c A m P σ Q E) : T3 c A (PySem.operate vs m) P σ Q E := fun τ s g => wpAny_operating (h τ s g)
theorem T3.release {vs ks : List Value} {Q : Unit → Vw → St → Prop} (h : Q () P σ) : T3 c A (PySem.release vs ks) P σ Q E := fun τ s g => wpAny_release ⟨P, σ, Le.refl _, g, h⟩
theorem T3.letgo {b : Expr} {o r : Value} {Q : Unit → Vw → St → Prop} (h : Q () P σ) : T3 c A (letTemporaryGo b o r) P σ Q E := fun τ s g => wpAny_letTemporaryGo ⟨P, σ, Le.refl _, g, h⟩
theorem T3.binop {l r : Expr} {op : Operator} (h : T3 c A (eval l env) P σ (kBin1 c A env E op r Q) E) : T3 c A (eval (.BinOp l op r pos) env) P σ Q E := by
  rw [arm_eval_BinOp]
  exact T3.bind (h.conseq fun a _ _ _ h => T3.bind (T3.holding (h.conseq fun b _ _ _ h => T3.bind (T3.standAt (T3.operate h)))))
theorem T3.unop {x : Expr} {op : UnaryOp} (h : T3 c A (eval x env) P σ (kUn c A E op Q) E) : T3 c A (eval (.UnaryOp op x pos) env) P σ Q E := by
  rw [arm_eval_UnaryOp]
  exact T3.bind (h.conseq fun a _ _ _ h => T3.bind (T3.standAt (T3.holding h)))
theorem T3.ifexp {t b o : Expr} (h : T3 c A (isTrue t env (eval t env)) P σ (kIfx c A env E b o Q) E) : T3 c A (eval (.IfExp t b o pos) env) P σ Q E := by
  rw [arm_eval_IfExp]
  refine T3.bind (h.conseq fun v _ _ _ h => ?_)
  cases v
  · exact h.2 rfl
  · exact h.1 rfl
theorem T3.cmp1 {l r : Expr} {op : CmpOp} (h : T3 c A (eval l env) P σ (kCmp1 c A env E op r Q) E)
    (hm : markedEach [op] [r] [eval r env] = [eval r env]) : T3 c A (eval (.Compare l [op] [r] pos) env) P σ Q E := by
  rw [arm_eval_Compare, arm_evalEach_cons, arm_evalEach_nil, hm]
  exact T3.bind (h.conseq fun a _ _ _ h => T3.bind (T3.holding (h.conseq fun b _ _ _ h => T3.bind (T3.standAt (T3.operate h)))))
theorem T3.attr {o : Expr} {n : Str} (h : T3 c A (eval o env) P σ (kAttr c A E n Q) E) (hb : attributeBase o n env (eval o env) = eval o env) : T3 c A (eval (.Attribute o n pos) env) P σ Q E := by
  rw [arm_eval_Attribute, hb]
  exact T3.bind (h.conseq fun a _ _ _ h => T3.bind (T3.standAt (T3.bind (T3.holding (h.conseq fun r _ _ _ h => T3.bind (T3.letgo (T3.pure h)))))))

/-! tests -/
theorem T3.isT {e : Expr} {whole : Sem Value} {Q : Bool → Vw → St → Prop} (he : isTrue e env whole = (do let v ← whole; PySem.standAt e.pos; PySem.holding [v] (PySem.truthy v))) (h : T3 c A whole P σ (kTru c A E Q) E) : T3 c A (isTrue e env whole) P σ Q E := by
  rw [he]
  exact T3.bind (h.conseq fun v _ _ _ h => T3.bind (T3.standAt (T3.holding h)))
theorem T3.isNot {x : Expr} {whole : Sem Value} {Q : Bool → Vw → St → Prop} (h : T3 c A (isTrue x env (eval x env)) P σ (kNot Q) E) : T3 c A (isTrue (.UnaryOp .Not x pos) env whole) P σ Q E := by
  rw [arm_isTrue_UnaryOp]
  exact T3.bind (h.conseq fun v _ _ _ h => T3.pure h)
theorem T3.isCmp {l r : Expr} {op : CmpOp} {whole : Sem Value} {Q : Bool → Vw → St → Prop} (h : T3 c A (eval l env) P σ (kCmp1 c A env E op r (kTru c A E Q)) E)
    (hm : markedEach [op] [r] [eval r env] = [eval r env]) : T3 c A (isTrue (.Compare l [op] [r] pos) env whole) P σ Q E := by
  rw [arm_isTrue_Compare, arm_evalEach_cons, arm_evalEach_nil, hm]
  exact T3.bind (h.conseq fun a _ _ _ h => T3.bind (T3.holding (h.conseq fun b _ _ _ h => T3.bind (T3.standAt (T3.bind (T3.operate (h.conseq fun v _ _ _ h => T3.holding h)))))))
theorem T3.isCmp2 {l r r2 : Expr} {op op2 : CmpOp} {whole : Sem Value} {Q : Bool → Vw → St → Prop} (h : T3 c A (eval l env) P σ (fun a P1 σ1 => T3 c A (eval r env) P1 σ1 (fun b P2 σ2 => T3 c A (compareOp op a b) P2 σ2 (fun v P3 σ3 =>
      T3 c A (truthy v) P3 σ3 (fun t P4 σ4 => (t = true → T3 c A (eval r2 env) P4 σ4 (fun b2 P5 σ5 => T3 c A (compareOp op2 b b2) P5 σ5 (fun v P6 σ6 => T3 c A (truthy v) P6 σ6 Q E) E) E) ∧ (t = false → Q false P4 σ4)) E) E) E) E)
    (hm : markedEach [op, op2] [r, r2] [eval r env, eval r2 env] = [eval r env, eval r2 env]) : T3 c A (isTrue (.Compare l [op, op2] [r, r2] pos) env whole) P σ Q E := by
  rw [arm_isTrue_Compare, arm_evalEach_cons, arm_evalEach_cons, arm_evalEach_nil, hm]
  refine T3.bind (h.conseq fun a _ _ _ h => T3.bind (T3.holding (h.conseq fun b _ _ _ h => T3.bind (T3.standAt (T3.bind (T3.holding (h.conseq fun v _ _ _ h => T3.bind (T3.release (T3.bind (T3.holding (h.conseq fun t _ _ _ h => ?_)))))))))))
  cases t
  · exact T3.pure (h.2 rfl)
  · exact T3.bind (T3.holding (T3.conseq (h.1 rfl) fun b _ _ _ h => T3.bind (T3.standAt (T3.bind (T3.operate (h.conseq fun v _ _ _ h => T3.holding h))))))
theorem T3.isBool {op : BoolOp} {vs : List Expr} {whole : Sem Value} {Q : Bool → Vw → St → Prop} (h : T3 c A (allTrue op vs env) P σ Q E) : T3 c A (isTrue (.BoolOp op vs pos) env whole) P σ Q E := by
  rw [arm_isTrue_BoolOp]; exact h
theorem T3.and1 {x : Expr} {rest : List Expr} {Q : Bool → Vw → St → Prop} (h : T3 c A (isTrue x env (eval x env)) P σ (kAnd c A env E rest Q) E) : T3 c A (allTrue .And (x :: rest) env) P σ Q E := by
  rw [arm_allTrue_cons]
  refine T3.bind (h.conseq fun b _ _ _ h => ?_)
  cases b
  · exact T3.pure (h.2 rfl)
  · exact h.1 rfl
theorem T3.or1 {x : Expr} {rest : List Expr} {Q : Bool → Vw → St → Prop} (h : T3 c A (isTrue x env (eval x env)) P σ (kOr c A env E rest Q) E) : T3 c A (allTrue .Or (x :: rest) env) P σ Q E := by
  rw [arm_allTrue_cons]
  refine T3.bind (h.conseq fun b _ _ _ h => ?_)
  cases b
  · exact h.2 rfl
  · exact T3.pure (h.1 rfl)
theorem T3.and0 {Q : Bool → Vw → St → Prop} (h : Q true P σ) : T3 c A (allTrue .And [] env) P σ Q E := T3.pure h
theorem T3.or0 {Q : Bool → Vw → St → Prop} (h : Q false P σ) : T3 c A (allTrue .Or [] env) P σ Q E := T3.pure h
theorem T3.truB {b : Bool} {Q : Bool → Vw → St → Prop} (h : Q b P σ) : T3 c A (truthy (.bool b)) P σ Q E := fun _ _ g => wpAny_truthy_bool ⟨P, σ, Le.refl _, g, h⟩

/-! value-level and, or -/
theorem T3.boolLast {op : BoolOp} {x : Sem Value} (h : T3 c A x P σ Q E) : T3 c A (boolOp pos op [x]) P σ Q E := h
theorem T3.boolAnd {x y : Sem Value} {r : List (Sem Value)} (h : T3 c A x P σ (fun v P1 σ1 => T3 c A (truthy v) P1 σ1 (fun b P2 σ2 => (b = true → T3 c A (boolOp pos .And (y :: r)) P2 σ2 Q E) ∧ (b = false → Q v P2 σ2)) E) E) : T3 c A (boolOp pos .And (x :: y :: r)) P σ Q E := by
  show T3 c A (x >>= _) P σ Q E
  refine T3.bind (h.conseq fun v _ _ _ h => T3.bind (T3.standAt (T3.bind (T3.holding (h.conseq fun b _ _ _ h => ?_)))))
  cases b
  · exact T3.pure (h.2 rfl)
  · exact h.1 rfl
theorem T3.boolOr {x y : Sem Value} {r : List (Sem Value)} (h : T3 c A x P σ (fun v P1 σ1 => T3 c A (truthy v) P1 σ1 (fun b P2 σ2 => (b = true → Q v P2 σ2) ∧ (b = false → T3 c A (boolOp pos .Or (y :: r)) P2 σ2 Q E)) E) E) : T3 c A (boolOp pos .Or (x :: y :: r)) P σ Q E := by
  show T3 c A (x >>= _) P σ Q E
  refine T3.bind (h.conseq fun v _ _ _ h => T3.bind (T3.standAt (T3.bind (T3.holding (h.conseq fun b _ _ _ h => ?_)))))
  cases b
  · exact h.2 rfl
  · exact T3.pure (h.1 rfl)
theorem T3.boolE {op : BoolOp} {vs : List Expr} (h : T3 c A (boolOp pos op (evalEach vs env)) P σ Q E) : T3 c A (eval (.BoolOp op vs pos) env) P σ Q E := by
  rw [arm_eval_BoolOp]; exact h

/-! lists of arguments -/
theorem T3.spl0 {Q : List Value → Vw → St → Prop} (h : Q [] P σ) : T3 c A (spliced []) P σ Q E := T3.pure h
theorem T3.spl1 {x : Sem Value} {rest : List (Bool × Sem Value)} {Q : List Value → Vw → St → Prop} (h : T3 c A x P σ (fun v P1 σ1 => T3 c A (spliced rest) P1 σ1 (fun vs P2 σ2 => Q (v :: vs) P2 σ2) E) E) : T3 c A (spliced ((false, x) :: rest)) P σ Q E := by
  rw [spliced]
  refine T3.bind (h.conseq fun v _ _ _ h => ?_)
  simp only [Bool.false_eq_true, if_false]
  exact T3.bind (T3.pure (T3.bind (T3.holding (h.conseq fun vs _ _ _ h => T3.pure h))))

theorem T3.ar0 {Q : List Value → Vw → St → Prop} (h : Q [] P σ) : T3 c A (spliced (argTs [] env)) P σ Q E := T3.pure h
theorem T3.ar1 {e : Expr} {rest : List Expr} {Q : List Value → Vw → St → Prop} (h : T3 c A (eval e env) P σ (kAr1 c A env E rest Q) E) : T3 c A (spliced (argTs (e :: rest) env)) P σ Q E := T3.spl1 h

theorem T3.tup {es : List Expr} {k : Nat} (h : T3 c A (spliced (argTs es env)) P σ (kTup c A E Q) E) (he : backTo pos (starEach es env) = argTs es env) : T3 c A (eval (.Tuple es k pos) env) P σ Q E := by
  rw [arm_eval_Tuple, he]
  exact T3.bind (T3.standAt (T3.bind h))
theorem T3.lst {es : List Expr} (h : T3 c A (spliced (argTs es env)) P σ (kLst c A E Q) E) (he : backTo pos (starEach es env) = argTs es env) : T3 c A (eval (.List es pos) env) P σ Q E := by
  rw [arm_eval_List, he]
  exact T3.bind (T3.standAt (T3.bind h))

theorem T3.callWith0 {f : Value} {first : List Value} (hk : keepIn c.K f = true ∨ (∃ i, f = .builtin i) ∨ (∃ T, f = .type T))
    (h : T3 c A (PySem.call f (first ++ [])) P σ Q E) : T3 c A (PySem.callWith pos f first (argTs [] env) []) P σ Q E := by
  intro τ s g
  refine callWith_of (P := fun h => c.K.In h) rfl (fun h X => ?_) (evalArgs_nil3 ⟨g.kin, h τ s g⟩)
  rcases hk with hk | ⟨i, rfl⟩ | ⟨T, rfl⟩
  · exact keeps_K hk h X
  · exact i1x2 .machine (.inr (.inl rfl)) Looks.now
  · exact i1x2 .machine (.inr (.inl rfl)) Looks.now
theorem T3.callWith {f : Value} {first : List Value} {e : Expr} {rest : List Expr} (hk : keepIn c.K f = true ∨ (∃ i, f = .builtin i) ∨ (∃ T, f = .type T))
    (h : T3 c A (spliced (argTs (e :: rest) env)) P σ (fun vs P1 σ1 => T3 c A (PySem.call f (first ++ vs)) P1 σ1 Q E) E) : T3 c A (PySem.callWith pos f first (argTs (e :: rest) env) []) P σ Q E := by
  have ha : (argTs (e :: rest) env).any (·.1) = false := by
    unfold argTs
    rw [List.any_map, List.any_eq_false]
    intro x _; exact Bool.false_ne_true
  intro τ s g
  refine callWith_of (P := fun h => c.K.In h) (by rw [ha]; rfl) (fun h X => ?_) (evalArgs_plain (wpAny_mono (h τ s g) (fun a s1 ⟨P1, σ1, l1, g1, q1⟩ => ⟨g1.kin, wpAny_mono (q1 τ _ g1) (fun _ _ ⟨P2, σ2, l2, g2, q2⟩ => ⟨P2, σ2, l1.trans l2, g2, q2⟩) fun _ _ ⟨P2, σ2, l2, g2, q2⟩ => ⟨P2, σ2, l1.trans l2, g2, q2⟩⟩) fun _ _ x => x))
  rcases hk with hk | ⟨i, rfl⟩ | ⟨T, rfl⟩
  · exact keeps_K hk h X
  · exact i1x2 .machine (.inr (.inl rfl)) Looks.now
  · exact i1x2 .machine (.inr (.inl rfl)) Looks.now

theorem T3.calln {x : Str} {np : Pos} {es : List Expr} (h : T3 c A (eval (.Name x np) env) P σ (kCn c A env E pos es Q) E) (he : backTo pos (starEach es env) = argTs es env) :
    T3 c A (eval (.Call (.Name x np) es [] pos) env) P σ Q E := by
  show T3 c A (do PySem.callWith pos (← eval (.Name x np) env) [] (backTo pos (starEach es env)) (backToKw pos (keywordEach [] env))) P σ Q E
  rw [he]
  exact T3.bind h
theorem T3.callm {o : Expr} {n : Str} {apos : Pos} {es : List Expr} (h : T3 c A (eval o env) P σ (kCm1 c A env E pos o n es Q) E)
    (he : backTo pos (starEach es env) = argTs es env) (hb : attributeBase o n env (eval o env) = eval o env) (hl : (apos.endLine == pos.line) = true) (hn : es.length < 29) :
    T3 c A (eval (.Call (.Attribute o n apos) es [] pos) env) P σ Q E := by
  rw [arm_eval_Call, hb, he]
  refine T3.bind (h.conseq fun ov _ _ _ h => T3.bind (T3.standAt ?_))
  have form : methodCallForm (es.length + ([] : List Keyword).length) (argTs es env) (backToKw pos (keywordEach [] env)) = true := by
    unfold methodCallForm argTs
    simp only [List.all_map, List.length_nil, Nat.add_zero, Bool.and_eq_true, decide_eq_true_eq]
    refine ⟨⟨?_, rfl⟩, ?_⟩
    · rw [List.all_eq_true]; intro x _; rfl
    · have : (if (backToKw pos (keywordEach [] env)).isEmpty = true then 0 else 1) = 0 := rfl
      omega
  have hpos : methodCallPos true o env apos pos = Pure.pure pos := by unfold methodCallPos; simp [hl]
  unfold methodCall calleeOf
  rw [form, hpos]
  simp only [if_true]
  refine T3.bind (T3.holding (h.conseq fun fm _ _ _ h => ?_))
  obtain ⟨f, first⟩ := fm
  exact T3.bind (T3.pure h)

/-! statements -/
noncomputable def Nx (c : Cx) (A : Around) (rest : List Stmt) (env : Env) (Q : Flow → Vw → St → Prop) (E : Value → Vw → St → Prop) (f : Flow) (P : Vw) (σ : St) : Prop := match f with | .next => T3 c A (execs rest env) P σ Q E | f => Q f P σ
theorem Nx.nx {rest : List Stmt} {Q : Flow → Vw → St → Prop} (h : T3 c A (execs rest env) P σ Q E) : Nx c A rest env Q E .next P σ := h
theorem Nx.ret {rest : List Stmt} {Q : Flow → Vw → St → Prop} {v : Value} (h : Q (.ret v) P σ) : Nx c A rest env Q E (.ret v) P σ := h
theorem Nx.brk {rest : List Stmt} {Q : Flow → Vw → St → Prop} (h : Q .brk P σ) : Nx c A rest env Q E .brk P σ := h
theorem Nx.cont {rest : List Stmt} {Q : Flow → Vw → St → Prop} (h : Q .cont P σ) : Nx c A rest env Q E .cont P σ := h
theorem T3.ss0 {Q : Flow → Vw → St → Prop} (h : Q .next P σ) : T3 c A (execs [] env) P σ Q E := fun τ s g => wpAny_execs_nil ⟨P, σ, Le.refl _, g, h⟩
theorem T3.ss1 {st : Stmt} {rest : List Stmt} {Q : Flow → Vw → St → Prop} (h : T3 c A (exec st env) P σ (Nx c A rest env Q E) E) : T3 c A (execs (st :: rest) env) P σ Q E := fun τ s g => by
  refine wpAny_execs_cons (wpAny_mono (h τ s g) (fun f s1 ⟨P1, σ1, l1, g1, q1⟩ => ?_) fun _ _ x => x)
  cases f with
  | next =>
    have q1 : T3 c A (execs rest env) P1 σ1 Q E := q1
    exact wpAny_mono (q1 τ _ g1) (fun _ _ ⟨P2, σ2, l2, g2, q2⟩ => ⟨P2, σ2, l1.trans l2, g2, q2⟩) fun _ _ ⟨P2, σ2, l2, g2, q2⟩ => ⟨P2, σ2, l1.trans l2, g2, q2⟩
  | _ => exact ⟨P1, σ1, l1, g1, q1⟩
end
end Mine
end
section
open PySem PySem.W PySem.Calls PyProof.Rows
namespace Mine
section
variable {α β : Type} {c : Cx} {A : Around} {P : Vw} {σ : St} {E : Value → Vw → St → Prop} {env : Env} {Q : Flow → Vw → St → Prop} {pos : Pos}

/-! statements -/
theorem T3.sIf {test : Expr} {body orelse : List Stmt} (h : T3 c A (isTrue test env (eval test env)) P σ (kIf c A env E body orelse Q) E) : T3 c A (exec (.If test body orelse pos) env) P σ Q E := by
  rw [arm_exec_If]
  refine T3.bind (T3.standAt (T3.bind (h.conseq fun b _ _ _ h => ?_)))
  cases b
  · exact h.2 rfl
  · exact h.1 rfl
theorem T3.sRet {e : Expr} (h : T3 c A (eval e env) P σ (kRet Q) E) : T3 c A (exec (.Return (some e) pos) env) P σ Q E := by
  rw [arm_exec_Return, arm_evalOpt_some]
  exact T3.bind (T3.standAt (T3.bind (h.conseq fun v _ _ _ h => T3.pure h)))
theorem T3.sRet0 (h : Q (.ret .none) P σ) : T3 c A (exec (.Return none pos) env) P σ Q E := fun τ s g => wpAny_Return_none ⟨P, σ, Le.refl _, g, h⟩
theorem T3.aName {x : Str} {v : Value} {np : Pos} {Q : Unit → Vw → St → Prop} (h : T3 c A (storeName env x v) P σ Q E) : T3 c A (assign (.Name x np) env v) P σ Q E := by
  rw [arm_assign_Name]
  refine T3.bind (T3.standAt ?_)
  unfold bindName
  exact T3.bind (T3.holding (T3.point (T3.bind (h.conseq fun _ _ _ _ h => T3.point h))))
theorem T3.aAttr {o : Expr} {n : Str} {v : Value} {np : Pos} {Q : Unit → Vw → St → Prop} (h : T3 c A (eval o env) P σ (kAA c A E n v Q) E) : T3 c A (assign (.Attribute o n np) env v) P σ Q E := by
  rw [arm_assign_Attribute]
  exact T3.bind (T3.holding (h.conseq fun ov _ _ _ h => T3.bind (T3.standAt (T3.bind (T3.holding (h.conseq fun _ _ _ _ h => T3.release h))))))
theorem T3.aSub {o i : Expr} {v : Value} {np : Pos} {Q : Unit → Vw → St → Prop} (h : T3 c A (eval o env) P σ (kAS1 c A env E i v Q) E) : T3 c A (assign (.Subscript o i np) env v) P σ Q E := by
  rw [arm_assign_Subscript]
  exact T3.bind (T3.holding (h.conseq fun ov _ _ _ h => T3.bind (T3.holding (h.conseq fun iv _ _ _ h => T3.bind (T3.standAt (T3.bind (T3.holding (h.conseq fun _ _ _ _ h => T3.release h))))))))
theorem T3.sAsg {t value : Expr} (h : T3 c A (eval value env) P σ (kAsg c A env E t Q) E)
    (he : (assignEach [t] env).map (·.2) = [assign t env]) (hs : swapsWithSole [t] value pos.line env = Pure.pure false) (hw : swappedStores [t] value env = Pure.pure none) : T3 c A (exec (.Assign [t] value pos) env) P σ Q E := by
  rw [arm_exec_Assign, hs, hw]
  refine T3.bind (T3.standAt (T3.bind (T3.pure ?_)))
  simp only [Bool.false_eq_true, if_false]
  refine T3.bind (h.conseq fun v _ _ _ h => T3.bind (T3.pure ?_))
  show T3 c A (do assignAll v ((assignEach [t] env).map (·.2)); Pure.pure .next) _ _ Q E
  rw [he]
  exact T3.bind (T3.conseq h fun _ _ _ _ h => T3.pure h)
theorem T3.sExpr {e : Expr} (h : T3 c A (eval e env) P σ (kNextV Q) E) (hi : interactive env = false) (hs : swapsWith e none pos.line env = Pure.pure false) : T3 c A (exec (.Expr e pos) env) P σ Q E :=
  fun τ s g => wpAny_Expr_any (wpAny_mono (h τ s g) (fun _ _ x => x) fun _ _ x => x) hi hs

/-- the body of a loop: no exception -/
theorem T3.sWhile {test : Expr} {body orelse : List Stmt} (h : C3 c A (.whileLoop test body orelse env) P σ (kR Q)) : T3 c A (exec (.While test body orelse pos) env) P σ Q E := fun τ s g =>
  wpAny_While (codeAny_mono (h τ s g) fun r s' ⟨P', σ', l, g', q⟩ => by
    cases r with
    | ok f => exact ⟨P', σ', l, g', q⟩
    | error e => exact q.elim)
theorem T3.wTurn {test : Expr} {body orelse : List Stmt} {R : Result → Vw → St → Prop}
    (h : T3 c A (isTrue test env (eval test env)) P σ (kWt c A env body orelse R (fun P2 σ2 => C3 c A (.whileLoop test body orelse env) P2 σ2 R)) NoE) : C3 c A (.whileLoop test body orelse env) P σ R := by
  have t : T3 c A (whileTurn test body orelse env) P σ (fun fin P1 σ1 => match fin with | .done f => R (.ok f) P1 σ1 | .again c' => c' = .whileLoop test body orelse env ∧ C3 c A c' P1 σ1 R) NoE := by
    unfold whileTurn
    refine T3.bind (h.conseq fun b _ _ _ h => ?_)
    cases b
    · exact T3.bind ((h.2 rfl).conseq fun f _ _ _ h => T3.pure h)
    · refine T3.bind ((h.1 rfl).conseq fun f _ _ _ h => ?_)
      cases f with
      | next => exact T3.pure ⟨rfl, h⟩
      | cont => exact T3.pure ⟨rfl, h⟩
      | brk => exact T3.pure h
      | ret v => exact T3.pure h
  intro τ s g
  refine codeAny_of_tree ?_
  rw [Around.under_of_weight (by rfl) (by rfl)]
  show wpAny _ A ((whileTurn test body orelse env).onRaise (fun x => do noteFrame x env; theTreesLotGoes x)) _ _ s
  refine wpAny_onRaise (wpAny_mono (t τ s g) (fun fin s' ⟨P1, σ1, l1, g1, q1⟩ => ?_) fun _ _ ⟨_, _, _, _, z⟩ => z.elim)
  cases fin with
  | done f => exact ⟨P1, σ1, l1, g1, q1⟩
  | again c' =>
    obtain ⟨rfl, q1⟩ := q1
    exact ⟨rfl, codeAny_mono (q1 τ _ g1) fun r s'' ⟨P2, σ2, l2, g2, q2⟩ => ⟨P2, σ2, l1.trans l2, g2, q2⟩⟩

theorem T3.sFor {target iter : Expr} {body orelse : List Stmt} (h : T3 c A (eval iter env) P σ (kFor1 c A env E target body orelse (kR Q)) E)
    (hs : ∀ x, foldedSetIterable iter env x = Pure.pure x) : T3 c A (exec (.For target iter body orelse pos) env) P σ Q E := fun τ s g =>
  wpAny_For (wpAny_mono (h τ s g) (fun x s1 ⟨P1, σ1, l1, g1, q1⟩ => wpAny_mono (q1 τ _ g1) (fun it s2 ⟨P2, σ2, l2, g2, q2⟩ => codeAny_mono (q2 τ _ g2) fun r s' ⟨P', σ', l, g', q⟩ => by
    cases r with
    | ok f => exact ⟨P', σ', l1.trans (l2.trans l), g', q⟩
    | error e => exact q.elim) fun _ _ ⟨P2, σ2, l2, g2, q2⟩ => ⟨P2, σ2, l1.trans l2, g2, q2⟩) fun _ _ x => x) hs
theorem T3.fTurn {target : Expr} {it : Value} {body orelse : List Stmt} {R : Result → Vw → St → Prop}
    (h : T3 c A (pyNext it) P σ (fun x P1 σ1 => match x with
      | none => T3 c A (execs orelse env) P1 σ1 (fun f P2 σ2 => R (.ok f) P2 σ2) NoE
      | some v => T3 c A (letOwnedTupleGo target it v) P1 σ1 (fun _ P2 σ2 => T3 c A (assign target env v) P2 σ2 (fun _ P3 σ3 => T3 c A (execs body env) P3 σ3 (fun f P4 σ4 => match f with
          | .next => C3 c A (.forLoop target it body orelse env) P4 σ4 R | .cont => C3 c A (.forLoop target it body orelse env) P4 σ4 R | .brk => R (.ok .next) P4 σ4 | .ret v => R (.ok (.ret v)) P4 σ4) NoE) NoE) NoE) NoE) : C3 c A (.forLoop target it body orelse env) P σ R := by
  have t : T3 c A (forTurn target it body orelse env) P σ (fun fin P1 σ1 => match fin with | .done f => R (.ok f) P1 σ1 | .again c' => (c' = .forLoop target it body orelse env ∧ C3 c A c' P1 σ1 R) ∨ (c' = .block orelse env ∧ T3 c A (execs orelse env) P1 σ1 (fun f P2 σ2 => R (.ok f) P2 σ2) NoE)) NoE := by
    unfold forTurn
    refine T3.bind (T3.standAt (T3.bind ?_))
    have h' : T3 c A ((pyNext it).onRaise (fun _ => PySem.standAt { target.pos with line := 0 })) P σ _ NoE := fun τ s g => wpAny_onRaise (wpAny_mono (h τ s g) (fun _ _ x => x) fun _ _ ⟨_, _, _, _, z⟩ => z.elim)
    refine h'.conseq fun x _ _ _ h => ?_
    cases x with
    | none => exact T3.pure (.inr ⟨rfl, h⟩)
    | some v =>
      refine T3.bind (T3.conseq h fun _ _ _ _ h => T3.bind (T3.conseq h fun _ _ _ _ h => T3.bind (T3.conseq h fun f _ _ _ h => ?_)))
      cases f with
      | next => exact T3.pure (.inl ⟨rfl, h⟩)
      | cont => exact T3.pure (.inl ⟨rfl, h⟩)
      | brk => exact T3.pure h
      | ret v => exact T3.pure h
  intro τ s g
  refine codeAny_of_tree ?_
  rw [Around.under_of_weight (by rfl) (by rfl)]
  show wpAny _ A ((forTurn target it body orelse env).onRaise (fun x => do noteFrame x env; theTreesLotGoes x)) _ _ s
  refine wpAny_onRaise (wpAny_mono (t τ s g) (fun fin s' ⟨P1, σ1, l1, g1, q1⟩ => ?_) fun _ _ ⟨_, _, _, _, z⟩ => z.elim)
  cases fin with
  | done f => exact ⟨P1, σ1, l1, g1, q1⟩
  | again c' =>
    rcases q1 with ⟨rfl, q1⟩ | ⟨rfl, q1⟩
    · exact ⟨rfl, codeAny_mono (q1 τ _ g1) fun r s'' ⟨P2, σ2, l2, g2, q2⟩ => ⟨P2, σ2, l1.trans l2, g2, q2⟩⟩
    · exact ⟨rfl, codeAny_block (wpAny_mono (q1 τ _ g1) (fun f s'' ⟨P2, σ2, l2, g2, q2⟩ => ⟨P2, σ2, l1.trans l2, g2, q2⟩) fun _ _ ⟨_, _, _, _, z⟩ => z.elim)⟩
end

/-! calls of the text's own -/
noncomputable def Room (A : Around) (n : Nat) : Prop := A.depth + n < recursionLimit ∧ A.units + 10 * n < cLine ∧ A.handled = none
theorem Room.dep {A : Around} {n : Nat} (r : Room A n) : A.depth < recursionLimit := Nat.lt_of_le_of_lt (Nat.le_add_right ..) r.1
theorem Room.uni {A : Around} {n : Nat} (r : Room A n) : A.units < cLine := Nat.lt_of_le_of_lt (Nat.le_add_right ..) r.2.1
theorem Room.no {A : Around} {n : Nat} (r : Room A n) : A.handled = none := r.2.2
theorem Room.deeper {A : Around} {n : Nat} {env : Env} (r : Room A (n + 1)) : Room (A.deeper env) n := ⟨by have := r.1; show A.depth + 1 + n < _; omega, by have := r.2.1; show A.units + 3 + 10 * n < _; omega, r.2.2⟩
theorem Room.in1 {A : Around} {n : Nat} (r : Room A (n + 1)) : Room A.in1 n := ⟨by have := r.1; show A.depth + n < _; omega, by have := r.2.1; show A.units + 1 + 10 * n < _; omega, r.2.2⟩
theorem Room.le {A : Around} {n m : Nat} (r : Room A n) (h : m ≤ n) : Room A m := ⟨by have := r.1; omega, by have := r.2.1; omega, r.2.2⟩

structure FnAt (c : Cx) (f : Addr) (qual : Str) (params : Arguments) (body : List Stmt) (scope : Scope) (dV : Value) : Prop where
  ex : ∃ (name : Str) (oc : Value) (od : Option Addr) (osl : Array (Option Value)) (doc pm cdv ct : Value) (an : Option Addr),
    c.K.lookup f = some ⟨oc, od, .func (fnOf name qual params body scope dV .none doc pm an cdv ct), osl⟩ ∧ codeIn c.K cdv qual = true
  keep : keepIn c.K (.ref f) = true
  fn : isFn c.K (.ref f) = true

noncomputable abbrev mkE (sc : Scope) (q : Str) (L f : Addr) (cd : Value) : Env :=
  { scope := sc, locals := L, globals := mainGlobals, cells := [], qual := q ++ ".<locals>.", func := some f, code := cd, frame := some L, builtins := builtinsNs }

/-- what a def's body hands back -/
noncomputable def Bk (L : Addr) (Q : Value → Vw → St → Prop) (fl : Flow) (P : Vw) (σ : St) : Prop := ∃ φ σ', σ = (L, φ) :: σ' ∧ Q (match fl with | .ret v => v | _ => .none) P σ'
theorem Bk.mk {L : Addr} {Q : Value → Vw → St → Prop} {v : Value} {P : Vw} {φ : Obj → Prop} {σ : St} (h : Q v P σ) : Bk L Q (.ret v) P ((L, φ) :: σ) := ⟨φ, σ, rfl, h⟩
theorem Bk.mk0 {L : Addr} {Q : Value → Vw → St → Prop} {P : Vw} {φ : Obj → Prop} {σ : St} (h : Q .none P σ) : Bk L Q .next P ((L, φ) :: σ) := ⟨φ, σ, rfl, h⟩

section
variable {c : Cx} {A : Around} {P : Vw} {σ : St} {E : Value → Vw → St → Prop} {Q : Value → Vw → St → Prop}
theorem C3.def {f : Addr} {qual : Str} {params : Arguments} {body : List Stmt} {scope : Scope} {dV : Value} {args : Args} {R : Result → Vw → St → Prop} (F : FnAt c f qual params body scope dV) (binds : List (Str × Value)) (hr : A.depth < recursionLimit)
    (hbind : ∀ name doc pm cdv ct an τ s, Gd c P σ τ s → BindsTo s (fnOf name qual params body scope dV .none doc pm an cdv ct) args binds)
    (hloc : (binds.all fun x => decide (scope.names.lookup x.1 = some .local)) = true) (hcell : (scope.names.all fun x => decide (x.2 ≠ .cell)) = true) (hflag : scope.isCoroutine = false ∧ scope.isGenerator = false ∧ scope.kind = .function)
    (h : ∀ L cd, T3 c (A.deeper (mkE scope qual L f cd)) (execs body (mkE scope qual L f cd)) P ((L, NsP binds.reverse) :: σ) (Bk L fun v => R (.ok (.ret v))) NoE) : C3 c A (.call (.ref f) args) P σ R := fun τ s g => by
  refine e9x2 (F.ex) ?_; rintro name oc od osl doc pm cdv ct an hk hcd
  refine e0x3 (hflag) ?_; rintro h1 h2 h3
  refine codeAny_call_def (fd := fnOf name qual params body scope dV .none doc pm an cdv ct) hr (g.kin _ _ hk) rfl (c.lim.keeps g.keep) (codeRec_of g.kin hcd) rfl (hbind _ _ _ _ _ _ τ s g) (fun x hx => of_decide_eq_true (List.all_eq_true.mp hcell x hx)) (fun x hx => of_decide_eq_true (List.all_eq_true.mp hloc x hx)) (fun h₀ hns hkp => ?_) h1 h2 h3
  have fr := g.ok.fresh
  have ok : Ok c P ((s.heap.objs.size, NsP binds.reverse) :: σ) τ h₀ := by
    refine ⟨g.ok.base, fun a o e => hkp _ _ (g.ok.per a o e), fun a o e => hkp _ _ (g.ok.frm a o e), g.ok.dis, fun x hx => ?_, ?_⟩
    · rcases List.mem_cons.mp hx with rfl | hx
      · exact i0x3 (of_ns hns fun _ _ e => e) fr.1 fr.2.1
      · obtain ⟨⟨o, ho, hφ⟩, r⟩ := g.ok.mu x hx
        exact ⟨⟨o, hkp _ _ ho, hφ⟩, r⟩
    · rw [List.map_cons]
      refine List.nodup_cons.mpr ⟨fun hm => ?_, g.ok.nd⟩
      refine e1x2 (List.mem_map.mp hm) ?_; rintro x hx e
      exact fr.2.2 x hx e
  refine wpAny_mono (h s.heap.objs.size cdv τ { s with heap := h₀, toks := s.toks + binds.length } ⟨ok, g.gens, g.os⟩) (fun fl s' ⟨P', σ', l, g', q⟩ => ?_) fun _ _ ⟨_, _, _, _, z⟩ => z.elim
  obtain ⟨φ, σ'', rfl, q⟩ := q
  exact ⟨P', σ'', l, ⟨g'.ok.drop, g'.gens, g'.os⟩, q⟩
theorem T3.def {f : Addr} {qual : Str} {params : Arguments} {body : List Stmt} {scope : Scope} {dV : Value} {args : List Value} (F : FnAt c f qual params body scope dV) (binds : List (Str × Value)) (hr : A.depth < recursionLimit)
    (hbind : ∀ name doc pm cdv ct an τ s, Gd c P σ τ s → BindsTo s (fnOf name qual params body scope dV .none doc pm an cdv ct) ⟨args, []⟩ binds)
    (hloc : (binds.all fun x => decide (scope.names.lookup x.1 = some .local)) = true) (hcell : (scope.names.all fun x => decide (x.2 ≠ .cell)) = true) (hflag : scope.isCoroutine = false ∧ scope.isGenerator = false ∧ scope.kind = .function)
    (h : ∀ L cd, T3 c (A.deeper (mkE scope qual L f cd)) (execs body (mkE scope qual L f cd)) P ((L, NsP binds.reverse) :: σ) (Bk L Q) NoE) : T3 c A (PySem.call (.ref f) args) P σ Q E :=
  T3.call (C3.def F binds hr hbind hloc hcell hflag fun L cd => (h L cd).conseq fun fl P' σ' _ q => q)

/-! fields of instances -/
structure Cls (c : Cx) (C : Addr) : Prop where
  ga : findIn c.K (.ref C) "__getattribute__" = some (some (.builtin "object.__getattribute__"))
  gx : findIn c.K (.ref C) "__getattr__" = some none
  hd : hasDictIn c.K C = true
  sa : findIn c.K (.ref C) "__setattr__" = some (some (.builtin "object.__setattr__"))
  po : plainOver c.K C = true

theorem inst_at {τ : Vw} {s : Shared} {x C dx : Addr} {o : Obj} (g : Gd c P σ τ s) (hx : P x = some (instObj C dx)) (hd : s.heap.get? dx = some o) : InstAt s.heap x (instObj C dx) C (some o) := ⟨g.ok.per _ _ hx, rfl, rfl, hd⟩

theorem T3.getI {x C dx : Addr} {n : Str} {es : List DictEntry} {k : Nat} {v : Value} {b : Bool} (hx : P x = some (instObj C dx)) (hd : P dx = some (dictOf es k)) (K : Cls c C) (ha : findIn c.K (.ref C) n = some none) (hl : getL n es = some (some v)) (hv : handedIn v = true) (h : Q v P σ) :
    T3 c A (getAttr (.ref x) n b) P σ Q E := fun τ s g =>
  get_value g.kin (inst_at g hx (g.ok.per _ _ hd)) K.ga (findObj_own K.hd ha rfl hl) hv ⟨P, σ, Le.refl _, g.toks _, h⟩
theorem T3.getM {x C dx : Addr} {φ : Obj → Prop} {n : Str} {b : Bool} (hx : P x = some (instObj C dx)) (hm : (dx, φ) ∈ σ) (K : Cls c C) (ha : findIn c.K (.ref C) n = some none)
    (h : ∀ o, φ o → ∃ es k v, o = dictOf es k ∧ getL n es = some (some v) ∧ handedIn v = true ∧ Q v P σ) : T3 c A (getAttr (.ref x) n b) P σ Q E := fun τ s g => by
  obtain ⟨⟨o, ho, hφ⟩, _⟩ := g.ok.mu _ hm
  refine e3x4 (h o hφ) ?_; rintro es k v hr16z hl hv q; subst hr16z
  exact get_value g.kin (inst_at g hx ho) K.ga (findObj_own K.hd ha rfl hl) hv ⟨P, σ, Le.refl _, g.toks _, q⟩
theorem T3.getC {x C dx : Addr} {n : Str} {es : List DictEntry} {k : Nat} {a : Value} {b : Bool} (hx : P x = some (instObj C dx)) (hd : P dx = some (dictOf es k)) (K : Cls c C) (ha : findIn c.K (.ref C) n = some (some a)) (hg : specialIn c.K a "__get__" = some none) (hv : handedIn a = true) (hc : copiedNames.contains n = false)
    (hl : getL n es = some none) (h : Q a P σ) : T3 c A (getAttr (.ref x) n b) P σ Q E := fun τ s g =>
  get_value g.kin (inst_at g hx (g.ok.per _ _ hd)) K.ga (findObj_cls K.hd ha hg hv hc hl) hv ⟨P, σ, Le.refl _, g.toks _, h⟩
theorem T3.methI {x C dx f : Addr} {n : Str} {es : List DictEntry} {k : Nat} {pl : Sem Bool} {Q : Value × List Value → Vw → St → Prop} (hx : P x = some (instObj C dx)) (hd : P dx = some (dictOf es k)) (K : Cls c C) (hf : findIn c.K (.ref C) n = some (some (.ref f))) (ht : isFn c.K (.ref f) = true)
    (hl : getL n es = some none) (h : Q (.ref f, [.ref x]) P σ) : T3 c A (getMethod (.ref x) n pl) P σ Q E := fun τ s g =>
  method_fn g.kin (inst_at g hx (g.ok.per _ _ hd)) K.ga K.gx hf (beq_iff_eq.mp ht) (by show (lookIn n (dictOf es k)).map _ = _; rw [lookIn_dict, hl]; rfl) ⟨P, σ, Le.refl _, g, h⟩
theorem T3.methM {x C dx f : Addr} {φ : Obj → Prop} {n : Str} {pl : Sem Bool} {Q : Value × List Value → Vw → St → Prop} (hx : P x = some (instObj C dx)) (hm : (dx, φ) ∈ σ) (K : Cls c C) (hf : findIn c.K (.ref C) n = some (some (.ref f))) (ht : isFn c.K (.ref f) = true)
    (hl : ∀ o, φ o → ∃ es k, o = dictOf es k ∧ getL n es = some none) (h : Q (.ref f, [.ref x]) P σ) : T3 c A (getMethod (.ref x) n pl) P σ Q E := fun τ s g => by
  obtain ⟨⟨o, ho, hφ⟩, _⟩ := g.ok.mu _ hm
  refine e2x2 (hl o hφ) ?_; rintro es k hr21z hl; subst hr21z
  exact method_fn g.kin (inst_at g hx ho) K.ga K.gx hf (beq_iff_eq.mp ht) (by show (lookIn n (dictOf es k)).map _ = _; rw [lookIn_dict, hl]; rfl) ⟨P, σ, Le.refl _, g, h⟩

/-- all that a heap holds, but two places -/
noncomputable def others (h : Heap) (L d : Addr) : List (Addr × Obj) := (List.range h.objs.size).filterMap fun a => if a = L ∨ a = d then none else (h.get? a).map fun o => (a, o)
theorem others_mem {h : Heap} {L d a : Addr} {o : Obj} : (a, o) ∈ others h L d ↔ a ≠ L ∧ a ≠ d ∧ h.get? a = some o := by
  unfold others
  rw [List.mem_filterMap]
  constructor
  · rintro hq24z; refine e1x2 (hq24z) ?_; clear hq24z; rintro b hb e
    split at e
    · cases e
    · rename_i q
      refine e1x2 (Option.map_eq_some_iff.mp e) ?_; rintro o' ho e
      cases e
      exact i0x3 (fun z => q (.inl z)) (fun z => q (.inr z)) ho
  · rintro hq25z; refine e0x3 (hq25z) ?_; clear hq25z; rintro h1 h2 h3
    refine i1x2 a (List.mem_range.mpr (Heap.lt_size h3)) ?_
    rw [if_neg (by rintro (z | z); exact h1 z; exact h2 z), h3]; rfl

theorem T3.setM {x C dx L : Addr} {φ φ' : Obj → Prop} {m : Lo} {n : Str} {v : Value} {Q : Unit → Vw → St → Prop} (hx : P x = some (instObj C dx)) (K : Cls c C) (ht : takerIn c.K C n = some none)
    (hφ : ∀ o hsh t, φ o → ∃ es k, o = dictOf es k ∧ (getL n es).isSome = true ∧ (putL n hsh (.str n t) v es).length ≤ 1000 ∧ φ' (dictOf (putL n hsh (.str n t) v es) (putN n es k)))
    (h : Q () P ((L, NsP m) :: (dx, φ') :: σ)) : T3 c A (setAttr (.ref x) n v) P ((L, NsP m) :: (dx, φ) :: σ) Q E := fun τ s g => by
  refine e0x3 (g.ok.mu _ (.tail _ (.head _))) ?_; rintro hq26z hp htau; refine e1x2 (hq26z) ?_; clear hq26z; rintro o ho hφo
  refine e2x4 (hφ o (PyData.keyHash c.w.params n) (s.toks + 1) hφo) ?_; rintro es k hr27z hl hz hφ'; subst hr27z
  refine e1x2 (g.ns) ?_; rintro mf ns z
  have nd := g.ok.nd
  simp only [List.map_cons, List.nodup_cons, List.mem_cons, not_or] at nd
  have hne : L ≠ dx := nd.1.1
  have F : Fr ⟨#[], {}⟩ L s.heap mf := ⟨ns, fun b o e => by simp [Heap.get?] at e, Nat.zero_le _⟩
  have N : News ⟨#[], {}⟩ L s.heap ([] ++ (dx, dictOf es k) :: others s.heap L dx) := fun p hp => by
    rcases List.mem_cons.mp hp with rfl | hp
    · exact i0x3 ho (Ne.symm hne) rfl
    · obtain ⟨a, o⟩ := p
      refine e0x3 (others_mem.mp hp) ?_; rintro h1 h2 h3
      exact i0x3 h3 h1 rfl
  refine set_plain g.kin (inst_at g hx ho) K.sa ?_
  refine osa_dict (s := { s with toks := s.toks + 1 }) F N g.kin (inst_at (g.toks _) hx ho) rfl K.po ht K.hd (by rw [lookIn_dict]; exact hl) (fun _ hp => nomatch hp) (fun p hp => ?_) (putName_dict ..) rfl hz fun h' F' N' => ?_
  · obtain ⟨a, o⟩ := p
    exact (others_mem.mp hp).2.1
  · refine i2x3 P _ (Le.refl _) ⟨?_, g.gens, g.os⟩ h
    have kp : ∀ b o, b ≠ L → b ≠ dx → s.heap.get? b = some o → h'.get? b = some o := fun b o h1 h2 h3 => (N' (b, o) (List.mem_append_right _ (.tail _ (others_mem.mpr ⟨h1, h2, h3⟩)))).1
    refine e0x3 (g.ok.mu _ (.head _)) ?_; rintro _ pL tL
    have pL : P L = none := pL
    have tL : τ L = none := tL
    have hp : P dx = none := hp
    have htau : τ dx = none := htau
    refine ⟨g.ok.base, fun b o e => kp b o (fun q => ?_) (fun q => ?_) (g.ok.per b o e), fun b o e => kp b o (fun q => ?_) (fun q => ?_) (g.ok.frm b o e), g.ok.dis, fun y hy => ?_, g.ok.nd⟩
    · subst q; rw [pL] at e; cases e
    · subst q; rw [hp] at e; cases e
    · subst q; rw [tL] at e; cases e
    · subst q; rw [htau] at e; cases e
    · rcases List.mem_cons.mp hy with rfl | hy
      · exact i0x3 (of_ns F'.ns z) pL tL
      · rcases List.mem_cons.mp hy with rfl | hy
        · exact i0x3 ⟨_, (N' _ (.head _)).1, hφ'⟩ hp htau
        · obtain ⟨⟨o, ho, hφ⟩, r⟩ := g.ok.mu y (.tail _ (.tail _ hy))
          exact ⟨⟨o, kp _ _ (fun q => nd.1.2 (List.mem_map.mpr ⟨y, hy, q⟩)) (fun q => nd.2.1 (List.mem_map.mpr ⟨y, hy, q⟩)) ho, hφ⟩, r⟩
end
end Mine
end
section
open PySem PySem.W PySem.Calls PyProof.Rows
namespace Mine
/-- a def of the text: its statement, its dotted name, its defaults -/
noncomputable def FnS (c : Cx) (f : Addr) (st : Stmt) (q : Str) (dV : Value) : Prop := FnAt c f q (fdP st) (fdB st) (fdS st) dV
end Mine
end
section
open PySem PySem.W PySem.Calls PyProof.Rows
namespace Mine
structure KF (c : Cx) : Prop where
  prog : c.prog = pw
  glob : ∀ x v, globTab.lookup x = some v → nsIn c.K mainGlobals x = some (some v)
  noglob : ∀ x, noGlob.contains x = true → nsIn c.K mainGlobals x = some none
  cls : ∀ C, clsTab.contains C = true → Cls c C
  mkC : ∀ C, clsTab.contains C = true → makesIn c.K C = true ∧ keepIn c.K (.ref C) = true
  inst : ∀ C n, instTab.contains (C, n) = true → findIn c.K (.ref C) n = some none
  meth : ∀ C n f, methTab.lookup (C, n) = some f → findIn c.K (.ref C) n = some (some (.ref f))
  const : ∀ C n v, constTab.lookup (C, n) = some v → findIn c.K (.ref C) n = some (some v) ∧ specialIn c.K v "__get__" = some none
  stat : ∀ C n s f, statTab.lookup (C, n) = some (s, f) → findCls c.K (.ref C) (.type "type") n = some (.get (.builtin "staticmethod.__get__") (.ref s) .none (.ref C)) ∧ (recIn c.K s "staticmethod").bind (·.head?) = some (.ref f) ∧ readsIn c.K C (.type "type") = true ∧ specialIn c.K (.ref C) "__getattribute__" = some (some (.builtin "type.__getattribute__"))
  fn : ∀ f, fnList.contains f = true → keepIn c.K (.ref f) = true ∧ isFn c.K (.ref f) = true
  dflt : ∀ a vs, dfltTab.lookup a = some vs → ∃ o, c.K.lookup a = some o ∧ o.data = .seq vs 0
  f_Position___init__ : FnS c 36 (clsS 10 0) (Str.ofString "Position.__init__") .none
  f_position_of : FnS c 57 (topS 11) (Str.ofString "position_of") .none
  f_ToolError___init__ : FnS c 72 (clsS 12 0) (Str.ofString "ToolError.__init__") (.ref 65)
  f_Cursor___init__ : FnS c 112 (clsS 14 0) (Str.ofString "Cursor.__init__") (.ref 105)
  f_Cursor_is_done : FnS c 119 (clsS 14 1) (Str.ofString "Cursor.is_done") .none
  f_Cursor_peek : FnS c 127 (clsS 14 2) (Str.ofString "Cursor.peek") (.ref 120)
  f_Cursor_starts : FnS c 134 (clsS 14 3) (Str.ofString "Cursor.starts") .none
  f_Cursor_take : FnS c 141 (clsS 14 4) (Str.ofString "Cursor.take") .none
  f_Cursor_skip : FnS c 148 (clsS 14 5) (Str.ofString "Cursor.skip") .none
  f_Cursor_take_while : FnS c 155 (clsS 14 6) (Str.ofString "Cursor.take_while") .none
  f_Cursor_name : FnS c 177 (clsS 14 9) (Str.ofString "Cursor.name") .none
  f_Cursor_quoted : FnS c 219 (clsS 14 15) (Str.ofString "Cursor.quoted") .none
  f_escaped_sign : FnS c 240 (topS 16) (Str.ofString "escaped_sign") .none
  f_CharSet___init__ : FnS c 290 (clsS 22 0) (Str.ofString "CharSet.__init__") .none
  f_CharSet_dot : FnS c 317 (clsS 22 3) (Str.ofString "CharSet.dot") .none
  f_CharSet_of : FnS c 325 (clsS 22 4) (Str.ofString "CharSet.of") .none
  f_CharSet_span : FnS c 335 (clsS 22 5) (Str.ofString "CharSet.span") .none
  f_CharSet_made : FnS c 345 (clsS 22 6) (Str.ofString "CharSet.made") .none
  f_CharSet_size : FnS c 362 (clsS 22 8) (Str.ofString "CharSet.size") .none
  f_CharSet_least : FnS c 376 (clsS 22 10) (Str.ofString "CharSet.least") .none
  f_CharSet_same : FnS c 418 (clsS 22 16) (Str.ofString "CharSet.same") .none
  f_CharSet_key : FnS c 439 (clsS 22 19) (Str.ofString "CharSet.key") .none
  f_Node_told : FnS c 488 (clsS 35 2) (Str.ofString "Node.told") .none
  f_Chars___init__ : FnS c 533 (clsS 38 1) (Str.ofString "Chars.__init__") .none
  f_Chars_told : FnS c 540 (clsS 38 2) (Str.ofString "Chars.told") .none
  f_Pair___init__ : FnS c 559 (clsS 39 0) (Str.ofString "Pair.__init__") .none
  f_Pair_told : FnS c 573 (clsS 39 2) (Str.ofString "Pair.told") .none
  f_Loop___init__ : FnS c 616 (clsS 42 0) (Str.ofString "Loop.__init__") .none
  f_Loop_told : FnS c 630 (clsS 42 2) (Str.ofString "Loop.told") .none
  f_spine : FnS c 704 (topS 47) (Str.ofString "spine") .none
  f_bracket_levels : FnS c 710 (topS 48) (Str.ofString "bracket_levels") (.ref 705)
  f_cat_all : FnS c 717 (topS 49) (Str.ofString "cat_all") .none
  f_Pattern___init__ : FnS c 738 (clsS 51 0) (Str.ofString "Pattern.__init__") .none
  f_Pattern_told : FnS c 759 (clsS 51 3) (Str.ofString "Pattern.told") .none
  f_RegexReader___init__ : FnS c 794 (clsS 54 0) (Str.ofString "RegexReader.__init__") .none
  f_RegexReader_failed : FnS c 801 (clsS 54 1) (Str.ofString "RegexReader.failed") .none
  f_RegexReader_is_over : FnS c 808 (clsS 54 2) (Str.ofString "RegexReader.is_over") .none
  f_RegexReader_is_stop : FnS c 815 (clsS 54 3) (Str.ofString "RegexReader.is_stop") .none
  f_RegexReader_choice : FnS c 822 (clsS 54 4) (Str.ofString "RegexReader.choice") .none
  f_RegexReader_branch : FnS c 829 (clsS 54 5) (Str.ofString "RegexReader.branch") .none
  f_RegexReader_looped : FnS c 836 (clsS 54 6) (Str.ofString "RegexReader.looped") .none
  f_RegexReader_single : FnS c 857 (clsS 54 9) (Str.ofString "RegexReader.single") .none
  f_RegexReader_code_of : FnS c 864 (clsS 54 10) (Str.ofString "RegexReader.code_of") .none
  f_RegexReader_quoted : FnS c 869 (clsS 54 11) (Str.ofString "RegexReader.quoted") .none
  f_RegexReader_defined : FnS c 876 (clsS 54 12) (Str.ofString "RegexReader.defined") .none
  f_read_regex : FnS c 919 (topS 55) (Str.ofString "read_regex") (.ref 912)
  f_read_pattern : FnS c 927 (topS 56) (Str.ofString "read_pattern") (.ref 920)
  f_show_sign : FnS c 934 (topS 59) (Str.ofString "show_sign") .none
  f_show_chars : FnS c 941 (topS 60) (Str.ofString "show_chars") .none
  f_show_loop : FnS c 955 (topS 62) (Str.ofString "show_loop") .none
  f_show_at : FnS c 960 (topS 63) (Str.ofString "show_at") .none
  f_show_regex : FnS c 967 (topS 64) (Str.ofString "show_regex") .none
  f_show_pattern : FnS c 974 (topS 65) (Str.ofString "show_pattern") .none
  f__law_vial : FnS c 979 (topS 67) (Str.ofString "_law_vial") .none
  f__law_drop : FnS c 986 (topS 68) (Str.ofString "_law_drop") .none
  f__law_sign : FnS c 993 (topS 69) (Str.ofString "_law_sign") .none
  f__law_base : FnS c 1000 (topS 70) (Str.ofString "_law_base") .none
  f__law_row : FnS c 1007 (topS 71) (Str.ofString "_law_row") .none
  f__law_needed : FnS c 1012 (topS 72) (Str.ofString "_law_needed") .none
  f__law_heard : FnS c 1019 (topS 73) (Str.ofString "_law_heard") .none
  f__law_looped : FnS c 1026 (topS 74) (Str.ofString "_law_looped") .none
  f__law_wrapped : FnS c 1033 (topS 75) (Str.ofString "_law_wrapped") .none
  f__law_is_flat : FnS c 1040 (topS 76) (Str.ofString "_law_is_flat") .none
  f__law_depth : FnS c 1047 (topS 77) (Str.ofString "_law_depth") .none
  f__law_pattern : FnS c 1054 (topS 78) (Str.ofString "_law_pattern") .none
  f_law : FnS c 1061 (topS 79) (Str.ofString "law") .none
  taker : ∀ C n, instTab.contains (C, n) = true → takerIn c.K C n = some none
  noinit : findIn c.K (.ref 505) (Str.ofString "__init__") = some (some (.builtin "object.__init__"))
  loopT : ∀ C, [645, 657, 669].contains C = true → isIn c.K (.ref C) 633 = true
  loopF : ∀ C, [505, 543, 588, 600].contains C = true → subIn c.K (.ref C) (.ref 633) = some false
  loopC : (clsIn c.K 633).isSome = true ∧ typeIn c.K (.ref 633) = some (.type "type") ∧ instIn c.K (.ref 633) (.type "type") = some true
  intF : ∀ C, clsTab.contains C = true → subIn c.K (.ref C) (.type "int") = some false
end Mine
end
section
open PySem PySem.W PySem.Calls PyProof.Rows
namespace Mine
/-! texts -/
noncomputable def S (l : List Nat) : Str := ⟨l.toArray⟩
theorem S_len (l : List Nat) : (S l).length = l.length := by simp [S, Str.length]
theorem S_add (a b : List Nat) : S a ++ S b = S (a ++ b) := by
  show Str.append _ _ = _
  simp [S, Str.append]
theorem S_inj {a b : List Nat} (h : S a = S b) : a = b := by
  have := congrArg (fun s => s.cps.toList) h
  simpa [S] using this
theorem S_beq (a b : List Nat) : (S a == S b) = (a == b) := by
  rw [Bool.eq_iff_iff, beq_iff_eq, beq_iff_eq]
  exact ⟨S_inj, fun h => by rw [h]⟩
theorem S_bne (a b : List Nat) : (S a != S b) = (a != b) := by unfold bne; rw [S_beq]
theorem nat0 (n : Nat) : ¬ ((n : Int) < 0) := Int.not_lt.mpr (Int.natCast_nonneg n)
theorem S_charAt {l : List Nat} {i : Nat} {x : Nat} (h : l[i]? = some x) : Txt.charAt (S l) (i : Int) = some x := by
  have hlt : i < l.length := (List.getElem?_eq_some_iff.mp h).1
  unfold Txt.charAt
  have e : seqIndex? (i : Int) (S l).length = some i := by
    unfold seqIndex?
    rw [S_len, if_neg (nat0 i), if_pos (by simp [hlt])]
    rfl
  rw [e]
  simp [S, h]
theorem S_item {l : List Nat} {i : Nat} {x : Nat} (h : l[i]? = some x) : Txt.item (S l) (i : Int) = S [x] := by
  unfold Txt.item
  rw [S_charAt h]; rfl
theorem S_contains (l : List Nat) (x : Nat) : Txt.contains (S l) (S [x]) = decide (x ∈ l) := by
  have h := StrLaws.found_one (S l) x
  refine h.trans ?_
  rw [Bool.eq_iff_iff, decide_eq_true_eq, decide_eq_true_eq]
  simp [S]
theorem sliced (x : Str) (a b : Nat) (hab : a ≤ b) (hb : b ≤ x.length) : Txt.slice x (some (a : Int)) (some (b : Int)) = ⟨((x.cps.toList.drop a).take (b - a)).toArray⟩ := by
  unfold Txt.slice
  split
  · rename_i h
    simp only [beq_self_eq_true, Bool.true_and, beq_iff_eq] at h
    rw [StrLaws.strSliceIndices_plain hab hb, List.length_map, List.length_range] at h
    have h0 : a = 0 := by omega
    have h1 : b = x.length := by omega
    subst h0; subst h1
    have : x.length = x.cps.toList.length := by simp [Str.length]
    rw [List.drop_zero, Nat.sub_zero, this, List.take_length]
  · rw [StrLaws.sliced_plain x hab hb]
theorem cmin (n k : Nat) : ((min n k : Nat) : Int) = min (n : Int) k := by
  rcases Nat.le_total n k with h | h
  · rw [Nat.min_eq_left h, Int.min_eq_left (Int.ofNat_le.mpr h)]
  · rw [Nat.min_eq_right h, Int.min_eq_right (Int.ofNat_le.mpr h)]
theorem max0 (n : Nat) : max (0 : Int) (n : Int) = n := Int.max_eq_right (Int.natCast_nonneg n)
theorem min2 (i n : Nat) : min ((min i n : Nat) : Int) (n : Int) = ((min i n : Nat) : Int) := Int.min_eq_left (Int.ofNat_le.mpr (Nat.min_le_right ..))
theorem indices_min (i j n : Nat) : Builtin.Str.strSliceIndices (some (i : Int)) (some (j : Int)) 1 n = Builtin.Str.strSliceIndices (some ((min i n : Nat) : Int)) (some ((min j n : Nat) : Int)) 1 n := by
  have h1 := nat0 i
  have h2 := nat0 j
  have h3 := nat0 (min i n)
  have h4 := nat0 (min j n)
  have e1 : max (0 : Int) (min (i : Int) (n : Int)) = max (0 : Int) (min ((min i n : Nat) : Int) (n : Int)) := by rw [min2, cmin]
  have e2 : max (0 : Int) (min (j : Int) (n : Int)) = max (0 : Int) (min ((min j n : Nat) : Int) (n : Int)) := by rw [min2, cmin]
  simp only [Builtin.Str.strSliceIndices, h1, h2, h3, h4, if_false, show ((1 : Int) > 0) = True from by simp, if_true, e1, e2]
theorem S_slice (l : List Nat) (i j : Nat) : Txt.slice (S l) (some (i : Int)) (some (j : Int)) = S ((l.drop i).take (j - i)) := by
  have e : Txt.slice (S l) (some (i : Int)) (some (j : Int)) = Txt.slice (S l) (some ((min i l.length : Nat) : Int)) (some ((min j l.length : Nat) : Int)) := by
    unfold Txt.slice
    rw [S_len, indices_min]
  rw [e]
  by_cases h : i ≤ j
  · rw [sliced (S l) (min i l.length) (min j l.length) (Nat.le_min.mpr ⟨Nat.le_trans (Nat.min_le_left ..) h, Nat.min_le_right ..⟩) (by rw [S_len]; exact Nat.min_le_right ..)]
    show S _ = S _
    congr 1
    show (List.drop _ l).take _ = _
    by_cases hi : i ≤ l.length
    · rw [Nat.min_eq_left hi]
      by_cases hj : j ≤ l.length
      · rw [Nat.min_eq_left hj]
      · rw [Nat.min_eq_right (Nat.le_of_lt (Nat.lt_of_not_le hj)), List.take_of_length_le (by rw [List.length_drop]; omega), List.take_of_length_le (by rw [List.length_drop]; omega)]
    · have hi' := Nat.le_of_lt (Nat.lt_of_not_le hi)
      rw [Nat.min_eq_right hi', List.drop_of_length_le (Nat.le_refl _), List.drop_of_length_le hi']; simp
  · have hji := Nat.le_of_lt (Nat.lt_of_not_le h)
    have z : j - i = 0 := Nat.sub_eq_zero_of_le hji
    have hmm : min j l.length ≤ min i l.length := Nat.le_min.mpr ⟨Nat.le_trans (Nat.min_le_left ..) hji, Nat.min_le_right ..⟩
    rw [z, List.take_zero]
    by_cases hm : min i l.length = min j l.length
    · rw [hm, sliced (S l) (min j l.length) (min j l.length) (Nat.le_refl _) (by rw [S_len]; exact Nat.min_le_right ..), Nat.sub_self, List.take_zero]; rfl
    · have hlt : min j l.length < min i l.length := Nat.lt_of_le_of_ne hmm fun e => hm e.symm
      have idx : Builtin.Str.strSliceIndices (some ((min i l.length : Nat) : Int)) (some ((min j l.length : Nat) : Int)) 1 (S l).length = [] := by
        have h3 := nat0 (min i l.length)
        have h4 := nat0 (min j l.length)
        rw [S_len]
        have e1 : max (0 : Int) (min ((min i l.length : Nat) : Int) (l.length : Int)) = ((min i l.length : Nat) : Int) := by rw [min2, max0]
        have e2 : max (0 : Int) (min ((min j l.length : Nat) : Int) (l.length : Int)) = ((min j l.length : Nat) : Int) := by rw [min2, max0]
        simp only [Builtin.Str.strSliceIndices, h3, h4, if_false, show ((1 : Int) > 0) = True from by simp, if_true, e1, e2]
        rw [sliceRange_one]
        have : min j l.length - min i l.length = 0 := Nat.sub_eq_zero_of_le hmm
        rw [this]; rfl
      unfold Txt.slice
      rw [idx, S_len]
      have : ((1 : Int) == 1 && ([] : List Nat).length == l.length) = false := by
        have h0 : l.length ≠ 0 := fun e => by rw [e] at hlt; simp at hlt
        simpa using fun e : 0 = l.length => h0 e.symm
      rw [if_neg (by rw [this]; exact Bool.false_ne_true)]; rfl

section
variable {c : Cx} {A : Around} {P : Vw} {σ : St} {E : Value → Vw → St → Prop} {Q : Value → Vw → St → Prop} {t u : Tok} {a b : Int} {x y : Str}

/-- an end -/
theorem en {α : Type} {R : α → Vw → St → Prop} {v : α} {τ : Vw} {s : Shared} (g : Gd c P σ τ s) (q : R v P σ) : ∃ P' σ', Le P P' ∧ Gd c P' σ' τ s ∧ R v P' σ' := ⟨P, σ, Le.refl _, g, q⟩

/-! ints -/
theorem T3.iLt (h : Q (.bool (decide (a < b))) P σ) : T3 c A (compareOp .Lt (.int a t) (.int b u)) P σ Q E := fun τ s g => by walk1; exact en g h
theorem T3.iLe (h : Q (.bool (decide (a ≤ b))) P σ) : T3 c A (compareOp .LtE (.int a t) (.int b u)) P σ Q E := fun τ s g => by walk1; exact en g h
theorem T3.iGt (h : Q (.bool (decide (b < a))) P σ) : T3 c A (compareOp .Gt (.int a t) (.int b u)) P σ Q E := fun τ s g => by walk1; exact en g h
theorem T3.iGe (h : Q (.bool (decide (b ≤ a))) P σ) : T3 c A (compareOp .GtE (.int a t) (.int b u)) P σ Q E := fun τ s g => by walk1; exact en g h
theorem T3.iEq (h : Q (.bool (a == b)) P σ) : T3 c A (compareOp .Eq (.int a t) (.int b u)) P σ Q E := fun τ s g => by walk1; exact en g h
theorem T3.iNe (h : Q (.bool (a != b)) P σ) : T3 c A (compareOp .NotEq (.int a t) (.int b u)) P σ Q E := fun τ s g => by walk1; exact en g h
theorem T3.iAdd (h : ∀ k, Q (.int (a + b) k) P σ) : T3 c A (binaryOp .Add (.int a t) (.int b u)) P σ Q E := fun τ s g => by walk1; exact en (g.toks _) (h _)
theorem T3.iSub (h : ∀ k, Q (.int (a - b) k) P σ) : T3 c A (binaryOp .Sub (.int a t) (.int b u)) P σ Q E := fun τ s g => by walk1; exact en (g.toks _) (h _)
theorem T3.iNeg (h : ∀ k, Q (.int (-a) k) P σ) : T3 c A (unaryOp .USub (.int a t)) P σ Q E := fun τ s g => by walk1; exact en (g.toks _) (h _)
theorem T3.iTruth {Q : Bool → Vw → St → Prop} (h : Q (a != 0) P σ) : T3 c A (truthy (.int a t)) P σ Q E := fun τ s g => by walk1; exact en g h

/-! strs -/
theorem T3.sEq (h : Q (.bool (x == y)) P σ) : T3 c A (compareOp .Eq (.str x t) (.str y u)) P σ Q E := fun τ s g => by walk1; exact en g h
theorem T3.sNe (h : Q (.bool (x != y)) P σ) : T3 c A (compareOp .NotEq (.str x t) (.str y u)) P σ Q E := fun τ s g => by walk1; exact en g h
theorem T3.sIn (h : Q (.bool (Txt.contains y x)) P σ) : T3 c A (compareOp .In (.str x t) (.str y u)) P σ Q E := fun τ s g => SB.contains (en g h)
theorem T3.sNotIn (h : Q (.bool (!Txt.contains y x)) P σ) : T3 c A (compareOp .NotIn (.str x t) (.str y u)) P σ Q E := fun τ s g => SB.notContains (en g h)
theorem T3.sAdd (hz : x.length + y.length ≤ sizeLine) (h : ∀ k, Q (.str (x ++ y) k) P σ) : T3 c A (binaryOp .Add (.str x t) (.str y u)) P σ Q E := fun τ s g => SB.add (fun t' k => en (g.toks _) (h _)) hz
theorem T3.sLen (hz : x.length ≤ 4000000) (h : ∀ k, Q (.int x.length k) P σ) : T3 c A (PySem.call (.builtin "len") [.str x t]) P σ Q E := fun τ s g => by
  walk1; exact en (g.toks _) (h _)
theorem T3.sTruth {Q : Bool → Vw → St → Prop} (hz : x.length ≤ 4000000) (h : Q ((x.length : Int) != 0) P σ) : T3 c A (truthy (.str x t)) P σ Q E := fun τ s g =>
  SBL.truthy (by omega) (en (g.toks _) h)
theorem T3.sItem (hr : fitsSsize a = true) (hi : (Txt.charAt x a).isSome = true) (h : ∀ k, Q (.str (Txt.item x a) k) P σ) : T3 c A (getItem (.str x t) (.int a u)) P σ Q E := fun τ s g => SB.getItem hr hi (en (g.toks _) (h _))
end
end Mine
end
section
open PySem PySem.W PySem.Calls PyProof.Rows
namespace Mine
section
variable {c : Cx} {A : Around} {P : Vw} {σ : St} {E : Value → Vw → St → Prop} {env : Env} {Q : Value → Vw → St → Prop} {pos : Pos}
noncomputable def HasT (c : Cx) (v : Value) (T : String) (P : Vw) (σ : St) : Prop := ∀ τ s, Gd c P σ τ s → s.TypeIs v T
theorem HasT.str {x : Str} {t : Tok} : HasT c (.str x t) "str" P σ := fun _ s _ => typeIs_str s x t
theorem HasT.per {a : Addr} {o : Obj} {T : String} (h : P a = some o) (hc : o.cls = .type T) : HasT c (.ref a) T P σ := fun _ s g => ⟨o, g.ok.per _ _ h, hc⟩
theorem HasT.mu {a : Addr} {φ : Obj → Prop} {T : String} (h : (a, φ) ∈ σ) (hc : ∀ o, φ o → o.cls = .type T) : HasT c (.ref a) T P σ := fun _ s g => by
  obtain ⟨⟨o, ho, hφ⟩, _⟩ := g.ok.mu _ h
  exact i1x2 o ho (hc o hφ)
/-- value[i] -/
theorem T3.sub {value i : Expr} {T id : String} (hl : typeLookup (.type T) "__getitem__" = Pure.pure (some (.builtin id)))
    (h : T3 c A (eval value env) P σ (fun o P1 σ1 => T3 c A (eval i env) P1 σ1 (fun iv P2 σ2 => HasT c o T P2 σ2 ∧ T3 c A (getItem o iv) P2 σ2 Q E) E) E)
    (hs : ∀ o iv, subscripted i false o iv = PySem.operate [o, iv] (getItem o iv)) : T3 c A (eval (.Subscript value i pos) env) P σ Q E := by
  rw [arm_eval_Subscript]
  refine T3.bind (h.conseq fun o _ _ _ h => T3.bind (T3.holding (h.conseq fun iv P2 σ2 _ h => T3.bind (T3.standAt ?_))))
  obtain ⟨hT, h⟩ := h
  have gi : ∀ {Q' : Bool → Vw → St → Prop}, Q' false P2 σ2 → T3 c A (getitemInPython o) P2 σ2 Q' E := fun {Q'} q τ s g => by
    unfold getitemInPython
    refine wpAny_bind (wpAny_specialOf (hT τ s g) hl ?_)
    exact wpAny_pure ⟨P2, σ2, Le.refl _, g, q⟩
  refine T3.bind (gi ?_)
  rw [hs]
  exact T3.bind (T3.operate (h.conseq fun r _ _ _ h => T3.bind (T3.letgo (T3.pure h))))
theorem lk_str : typeLookup (.type "str") "__getitem__" = Pure.pure (some (.builtin "str.__getitem__")) := F.slot_str_getitem.lookup

/-- x[i:j] of a str -/
noncomputable def evPart (e : Option Expr) (env : Env) : Sem Value := valueOrNone (evalOpt e env)
theorem T3.part1 {e : Expr} (h : T3 c A (eval e env) P σ Q E) : T3 c A (evPart (some e) env) P σ Q E := h
theorem T3.part0 (h : Q .none P σ) : T3 c A (evPart none env) P σ Q E := T3.pure h
noncomputable def optOf : Option (Int × Tok) → Value
  | none => .none
  | some (i, t) => .int i t
theorem Txt_slice_made (x : Str) (t : Tok) (l u : Option (Int × Tok)) : (sliceMade x t l u none) = if Txt.slice x (l.map (·.1)) (u.map (·.1)) = x ∧ (slicePicked x l u none).length = x.length then .val (.str x t) else .str (Txt.slice x (l.map (·.1)) (u.map (·.1))) := by
  unfold sliceMade Txt.slice slicePicked
  simp only [Option.map_none, Option.getD_none, beq_self_eq_true, Bool.true_and, beq_iff_eq]
  split <;> simp_all
theorem T3.slice {value : Expr} {lo up : Option Expr} {p2 : Pos} 
    (h : T3 c A (eval value env) P σ (fun o P1 σ1 => T3 c A (evPart lo env) P1 σ1 (fun vl P2 σ2 => T3 c A (evPart up env) P2 σ2 (fun vu P3 σ3 =>
      ∃ x t l u, o = .str x t ∧ vl = optOf l ∧ vu = optOf u ∧ x.length ≤ sizeLine ∧ ∀ k, Q (.str (Txt.slice x (l.map (·.1)) (u.map (·.1))) k) P3 σ3) E) E) E) : T3 c A (eval (.Subscript value (.Slice lo up none p2) pos) env) P σ Q E := by
  rw [arm_eval_Subscript]
  refine T3.bind (h.conseq fun o _ _ _ h => T3.bind (T3.holding ?_))
  rw [arm_eval_Slice]
  refine T3.bind (T3.conseq h fun vl _ _ _ h => T3.bind (T3.holding (T3.conseq h fun vu P3 σ3 _ h => T3.bind (T3.holding (T3.pure ?_)))))
  refine e4x5 (h) ?_; rintro x t l u hr32z hr33z hr34z hz hq; subst hr32z; subst hr33z; subst hr34z
  show T3 c A (newFields "slice" [optOf l, optOf u, Value.none]) P3 σ3 _ E
  refine T3.bind (T3.allocM (φ := fun o => o = { cls := .type "slice", data := .fields #[optOf l, optOf u, Value.none] }) rfl fun a _ => T3.pure ?_)
  refine T3.bind (T3.standAt ?_)
  have gi : ∀ {Q' : Bool → Vw → St → Prop} {σ' : St}, Q' false P3 σ' → T3 c A (getitemInPython (.str x t)) P3 σ' Q' E := fun {Q' σ'} q τ s g => by
    unfold getitemInPython
    exact wpAny_bind (wpAny_specialOf (typeIs_str _ _ _) F.slot_str_getitem.lookup (wpAny_pure ⟨P3, σ', Le.refl _, g, q⟩))
  refine T3.bind (gi ?_)
  show T3 c A (PySem.operate [_, _] (getItem (.str x t) (.ref a)) >>= _) _ _ _ E
  refine T3.bind (T3.operate ?_)
  intro τ s g
  have hsl : s.heap.IsSlice a l u none := by
    obtain ⟨⟨o, ho, hφ⟩, _⟩ := g.ok.mu _ (.head _)
    refine i1x2 o ho ?_
    subst hφ
    rcases l with _ | ⟨i, ti⟩ <;> rcases u with _ | ⟨j, tj⟩ <;> exact ⟨rfl, rfl⟩
  refine wpAny_getItem_str_slice hsl rfl ?_
  have fin : ∀ k t', ∃ P' σ', Le P3 P' ∧ Gd c P' σ' τ { s with toks := k } ∧ T3 c A (do letTemporaryGo value (.str x t) (.str (Txt.slice x (l.map (·.1)) (u.map (·.1))) t'); Pure.pure (.str (Txt.slice x (l.map (·.1)) (u.map (·.1))) t')) P' σ' Q E := fun k t' =>
    ⟨P3, _, Le.refl _, g.toks k, T3.drop (T3.bind (T3.letgo (T3.pure (hq t'))))⟩
  rw [Txt_slice_made]
  split
  · rename_i e
    have := fin s.toks t
    rw [e.1] at this
    exact this
  · exact ⟨Nat.le_trans (Txt.slice_le x _ _) hz, fin _ _⟩
end
end Mine
end
section
open PySem PySem.W PySem.Calls PyProof.Rows
namespace Mine
/-! lists, tuples -/
noncomputable def IsLi (xs : List Value) (o : Obj) : Prop := ∃ n, o = { cls := .type "list", data := .seq xs.toArray n }
noncomputable def LiP (P : Vw) (l : Addr) (xs : List Value) : Prop := ∃ o, P l = some o ∧ o.cls = .type "list" ∧ ∃ n, o.data = .seq xs.toArray n
noncomputable def TuP (P : Vw) (l : Addr) (xs : List Value) : Prop := ∃ n, P l = some { cls := .type "tuple", data := .seq xs.toArray n }
theorem LiP.le {P P' : Vw} {a : Addr} {xs : List Value} (l : Le P P') (h : LiP P a xs) : LiP P' a xs := let ⟨o, e, r⟩ := h; ⟨o, l _ _ e, r⟩
theorem TuP.le {P P' : Vw} {a : Addr} {xs : List Value} (l : Le P P') (h : TuP P a xs) : TuP P' a xs := let ⟨n, e⟩ := h; ⟨n, l _ _ e⟩
theorem TuP.put {P : Vw} {a : Addr} {xs : List Value} {n : Nat} : TuP (put P a { cls := .type "tuple", data := .seq xs.toArray n }) a xs := ⟨n, put_self⟩

section
variable {α : Type} {c : Cx} {A : Around} {P : Vw} {σ : St} {E : Value → Vw → St → Prop} {env : Env} {Q : Value → Vw → St → Prop} {pos : Pos} {x y z : Addr × (Obj → Prop)} {a l : Addr} {xs : List Value} {v : Value} {t : Tok}

theorem Ok.updAt {τ : Vw} {h h' : Heap} {pre : St} {φ φ' : Obj → Prop} (k : Ok c P (pre ++ (a, φ) :: σ) τ h) (hs : ∀ b, b ≠ a → ∀ o, h.get? b = some o → h'.get? b = some o) (hn : ∃ o, h'.get? a = some o ∧ φ' o) : Ok c P (pre ++ (a, φ') :: σ) τ h' :=
  ((k.perm List.perm_middle).update hs hn).perm List.perm_middle.symm
theorem Ok.dropAt {τ : Vw} {h : Heap} {pre : St} (k : Ok c P (pre ++ x :: σ) τ h) : Ok c P (pre ++ σ) τ h := (k.perm List.perm_middle).drop
/-- another shape of the same heap -/
theorem T3.re {t : Sem α} {Q : α → Vw → St → Prop} {σ' : St} (p : σ.Perm σ') (h : T3 c A t P σ Q E) : T3 c A t P σ' Q E := T3.perm p.symm h

theorem T3.newLi {xs : List Value} (hz : xs.length ≤ sizeLine) (h : ∀ a, P a = none → Q (.ref a) P (x :: (a, IsLi xs) :: σ)) : T3 c A (newList xs) P (x :: σ) Q E := fun τ s g =>
  wpAny_newList (hsz := hz) ⟨P, _, Le.refl _, ⟨(g.ok.pushM (φ := IsLi xs) rfl ⟨_, rfl⟩).perm (List.Perm.swap ..), g.gens, g.os⟩, h _ g.ok.fresh.1⟩
theorem T3.newTu {xs : List Value} (hz : xs.length ≤ sizeLine) (h : ∀ a P', Le P P' → TuP P' a xs → Q (.ref a) P' σ) : T3 c A (newTuple xs) P σ Q E := fun τ s g =>
  wpAny_newTuple (hsz := hz) ⟨_, _, le_put g.ok.fresh.1, ⟨g.ok.pushP rfl, g.gens, g.os⟩, h _ _ (le_put g.ok.fresh.1) .put⟩

/-! a list's end -/
theorem T3.freezeLi {t : Sem α} {Q : α → Vw → St → Prop} {pre : St} (h : ∀ P', Le P P' → LiP P' a xs → T3 c A t P' (pre ++ σ) Q E) : T3 c A t P (pre ++ (a, IsLi xs) :: σ) Q E :=
  T3.perm List.perm_middle (T3.freeze fun o ⟨n, e⟩ hp => h _ (le_put hp) (e ▸ ⟨_, put_self, rfl, n, rfl⟩))

theorem liAt {τ : Vw} {s : Shared} (g : Gd c P σ τ s) (hm : (a, IsLi xs) ∈ σ) : ∃ n, s.heap.get? a = some { cls := .type "list", data := .seq xs.toArray n } := by
  obtain ⟨⟨o, ho, n, e⟩, _⟩ := g.ok.mu _ hm
  exact ⟨n, e ▸ ho⟩
theorem LiP.isList {τ : Vw} {s : Shared} (h : LiP P a xs) (g : Gd c P σ τ s) : s.heap.IsList a xs.toArray := let ⟨o, e, r⟩ := h; ⟨o, g.ok.per _ _ e, r⟩
theorem TuP.isTuple {τ : Vw} {s : Shared} (h : TuP P a xs) (g : Gd c P σ τ s) : s.heap.IsTuple a xs.toArray := let ⟨n, e⟩ := h; ⟨_, g.ok.per _ _ e, rfl, n, rfl⟩
theorem TuP.isTup {τ : Vw} {s : Shared} (h : TuP P a xs) (g : Gd c P σ τ s) : IsTup s.heap a xs.toArray := let ⟨n, e⟩ := h; ⟨_, g.ok.per _ _ e, rfl, n, rfl⟩
theorem HasT.li (hm : (a, IsLi xs) ∈ σ) : HasT c (.ref a) "list" P σ := HasT.mu hm fun _ ⟨_, e⟩ => e ▸ rfl
theorem HasT.liP (h : LiP P a xs) : HasT c (.ref a) "list" P σ := let ⟨_, e, hc, _⟩ := h; HasT.per e hc
theorem HasT.tu (h : TuP P a xs) : HasT c (.ref a) "tuple" P σ := let ⟨_, e⟩ := h; HasT.per e rfl

theorem isLi_map {f : Array Value → Array Value} {xs ys : List Value} {n : Nat} (h : f xs.toArray = ys.toArray) : IsLi ys (Obj.mapSeq f { cls := .type "list", data := .seq xs.toArray n }) :=
  ⟨(if (f xs.toArray).size == xs.toArray.size then n else n + 1), by rw [← h]; rfl⟩
/-! methods of a list -/
theorem T3.mLi {name : Str} {id : String} {pl : Sem Bool} {Q : Value × List Value → Vw → St → Prop} (slot : Slot "list" name id) (hty : typeOf (.builtin id) = Pure.pure (.type "method_descriptor")) (hm : (a, IsLi xs) ∈ σ)
    (h : Q (.builtin id, [.ref a]) P σ) : T3 c A (getMethod (.ref a) name pl) P σ Q E := fun τ s g => by
  obtain ⟨n, ho⟩ := liAt g hm
  exact getMethod_builtin ⟨_, ho, rfl⟩ PySem.F.plainAttrs_list slot hty (fun b e => by cases e; exact ⟨_, ho, rfl⟩) ⟨P, σ, Le.refl _, g, h⟩
theorem T3.lAppend {pre : St} (hz : xs.length ≤ sizeLine) (h : Q .none P (pre ++ (a, IsLi (xs ++ [v])) :: σ)) : T3 c A (PySem.call (.builtin "list.append") [.ref a, v]) P (pre ++ (a, IsLi xs) :: σ) Q E := fun τ s g => by
  obtain ⟨n, ho⟩ := liAt (a := a) (xs := xs) g (List.mem_append_right _ (.head _))
  refine wpAny_list_append_plain (hsz := by simpa using hz) ⟨n, ho⟩ fun h' ⟨n', e⟩ hs => ⟨P, _, Le.refl _, ⟨g.ok.updAt (fun b nb o e => (hs.2 b nb).trans e) ⟨_, e, n', by simp⟩, g.gens, g.os⟩, h⟩
theorem T3.lReverse {pre : St} (hz : xs.length ≤ sizeLine) (h : Q .none P (pre ++ (a, IsLi xs.reverse) :: σ)) : T3 c A (PySem.call (.builtin "list.reverse") [.ref a]) P (pre ++ (a, IsLi xs) :: σ) Q E := fun τ s g => by
  obtain ⟨n, ho⟩ := liAt (a := a) (xs := xs) g (List.mem_append_right _ (.head _))
  refine call_meets F.slot_list_reverse ⟨_, ho, rfl⟩ F.entry_list_reverse (F.args_list_reverse_1 _) (AutoSeq1.list_reverse_list_0 a xs.toArray n (by simpa using hz)) ⟨ho, ?_⟩
  exact i2x3 P _ (Le.refl _) ⟨g.ok.updAt (fun b nb o e => ((Heap.SameBut.update s.heap a _).2 b nb).trans e) ⟨_, Heap.get?_update_self _ ho rfl, isLi_map (by simp)⟩, g.gens, g.os⟩ h
theorem T3.lPop {pre : St} (hz : xs.length < sizeLine) (h : Q v P (pre ++ (a, IsLi xs) :: σ)) : T3 c A (PySem.call (.builtin "list.pop") [.ref a]) P (pre ++ (a, IsLi (xs ++ [v])) :: σ) Q E := fun τ s g => by
  obtain ⟨n, ho⟩ := liAt (a := a) (xs := xs ++ [v]) g (List.mem_append_right _ (.head _))
  refine call_meets F.slot_list_pop ⟨_, ho, rfl⟩ F.entry_list_pop (F.args_list_pop_1 _) (MeetsSeq.list_pop_last a (xs ++ [v]).toArray n v (by simp) (by simp; omega)) ⟨ho, ?_⟩
  exact i2x3 P _ (Le.refl _) ⟨g.ok.updAt (fun b nb o e => ((Heap.SameBut.update s.heap a _).2 b nb).trans e) ⟨_, Heap.get?_update_self _ ho rfl, isLi_map (by simp [List.eraseIdx_append_of_length_le])⟩, g.gens, g.os⟩ h
theorem T3.lPop0 {pre : St} (hz : xs.length < sizeLine) (h : Q v P (pre ++ (a, IsLi xs) :: σ)) : T3 c A (PySem.call (.builtin "list.pop") [.ref a, .int 0 t]) P (pre ++ (a, IsLi (v :: xs)) :: σ) Q E := fun τ s g => by
  obtain ⟨n, ho⟩ := liAt (a := a) (xs := v :: xs) g (List.mem_append_right _ (.head _))
  refine call_meets F.slot_list_pop ⟨_, ho, rfl⟩ F.entry_list_pop (F.args_list_pop_2 _ _) (MeetsSeq.list_pop_at a (v :: xs).toArray n 0 t 0 v (by decide) (by unfold seqIndex?; simp) (by simp) (by simp; omega)) ⟨ho, ?_⟩
  exact i2x3 P _ (Le.refl _) ⟨g.ok.updAt (fun b nb o e => ((Heap.SameBut.update s.heap a _).2 b nb).trans e) ⟨_, Heap.get?_update_self _ ho rfl, isLi_map (by simp)⟩, g.gens, g.os⟩ h
/-! length, places -/
theorem T3.lLen (hm : (a, IsLi xs) ∈ σ) (hz : xs.length ≤ sizeLine) (h : ∀ k, Q (.int xs.length k) P σ) : T3 c A (PySem.call (.builtin "len") [.ref a]) P σ Q E := fun τ s g => by
  obtain ⟨n, ho⟩ := liAt g hm
  have hz' := sizeLine_eq ▸ hz
  exact call_len_list ⟨_, ho, rfl, n, rfl⟩ (by simp; omega) ⟨P, σ, Le.refl _, g.toks _, by simpa using h _⟩
theorem T3.lLenP (hl : LiP P a xs) (hz : xs.length ≤ sizeLine) (h : ∀ k, Q (.int xs.length k) P σ) : T3 c A (PySem.call (.builtin "len") [.ref a]) P σ Q E := fun τ s g => by
  have hz' := sizeLine_eq ▸ hz
  exact call_len_list (hl.isList g) (by simp; omega) ⟨P, σ, Le.refl _, g.toks _, by simpa using h _⟩
theorem T3.lItem {i : Int} {k : Nat} (hl : LiP P a xs) (h0 : i = k) (hk : xs[k]? = some v) (hz : xs.length ≤ sizeLine) (h : Q v P σ) : T3 c A (getItem (.ref a) (.int i t)) P σ Q E := fun τ s g => by
  have hz' := sizeLine_eq ▸ hz
  obtain ⟨hk1, hk2⟩ := List.getElem?_eq_some_iff.mp hk
  exact wpAny_getItem_list (hl.isList g) (by omega) (by omega) (by subst h0; simpa using hk) ⟨P, σ, Le.refl _, g, h⟩
theorem T3.tItem {i : Int} {k : Nat} (hl : TuP P a xs) (h0 : i = k) (hk : xs[k]? = some v) (hz : xs.length ≤ sizeLine) (h : Q v P σ) : T3 c A (getItem (.ref a) (.int i t)) P σ Q E := fun τ s g => by
  have hz' := sizeLine_eq ▸ hz
  obtain ⟨hk1, hk2⟩ := List.getElem?_eq_some_iff.mp hk
  exact PyProof.Rows.getItem_tuple (hl.isTup g) (j := k) (x := v) (by omega) (by omega) (by subst h0; unfold seqIndex?; rw [if_neg (nat0 k), if_pos (by simp [hk1])]; rfl) (by simpa using hk) ⟨P, σ, Le.refl _, g, h⟩
end
end Mine
end
section
open PySem PySem.W PySem.Calls PyProof.Rows
namespace Mine
/-! for -/
structure Wkr (c : Cx) (P : Vw) (it : Addr) (φ : Nat → Obj → Prop) (n : Nat) (item : Nat → Value → Prop) : Prop where
  next : ∀ {A : Around} {P' : Vw} {σ : St} {τ : Vw} {s : Shared} {i : Nat} {Q : Option Value → Shared → Prop} {E : Value → Shared → Prop}, A.handled = none → Le P P' → i < n → Gd c P' ((it, φ i) :: σ) τ s →
    (∀ v s', Gd c P' ((it, φ (i + 1)) :: σ) τ s' → item i v → Q (some v) s') → wpAny (model c.prog c.w) A (pyNext (.ref it)) Q E s
  stop : ∀ {A : Around} {P' : Vw} {σ : St} {τ : Vw} {s : Shared} {Q : Option Value → Shared → Prop} {E : Value → Shared → Prop}, A.handled = none → Le P P' → Gd c P' ((it, φ n) :: σ) τ s →
    (∀ s', Gd c P' σ τ s' → Q none s') → wpAny (model c.prog c.w) A (pyNext (.ref it)) Q E s
  plain : ∀ i o, φ i o → ∃ T, o.cls = .type T ∧ ["enumerate", "zip", "dict_itemiterator", "dict_reverseitemiterator", "odict_iterator", "itertools.zip_longest", "itertools.pairwise"].contains T = false

section
variable {α : Type} {c : Cx} {A : Around} {P : Vw} {σ : St} {E : Value → Vw → St → Prop} {env : Env} {Q : Value → Vw → St → Prop} {pos : Pos} {a l : Addr} {xs : List Value} {v : Value} {t : Tok}
theorem C3.mono {cd : Code} {R R' : Result → Vw → St → Prop} (h : C3 c A cd P σ R) (k : ∀ r P' σ', Le P P' → R r P' σ' → R' r P' σ') : C3 c A cd P σ R' :=
  fun τ s g => codeAny_mono (h τ s g) fun r s' ⟨P', σ', l, g', q⟩ => ⟨P', σ', l, g', k _ _ _ l q⟩
theorem T3.ownGo {target : Expr} {it : Addr} {φ : Obj → Prop} {v : Value} {Q : Unit → Vw → St → Prop} (hp : ∀ o, φ o → ∃ T, o.cls = .type T ∧ ["enumerate", "zip", "dict_itemiterator", "dict_reverseitemiterator", "odict_iterator", "itertools.zip_longest", "itertools.pairwise"].contains T = false)
    (h : Q () P ((it, φ) :: σ)) : T3 c A (letOwnedTupleGo target (.ref it) v) P ((it, φ) :: σ) Q E := by
  unfold letOwnedTupleGo
  cases target
  case Tuple | List =>
    cases v
    case ref a =>
      intro τ s g
      obtain ⟨⟨o, ho, hφ⟩, _⟩ := g.ok.mu _ (.head _)
      refine e1x2 (hp o hφ) ?_; rintro T hc hT
      refine wpAny_bind (wpAny_load ho ?_)
      obtain ⟨cl, dd, da, sl⟩ := o
      obtain rfl : cl = .type T := hc
      cases da
      case fields vs =>
        show wpAny _ _ (if (_ && _) = true then _ else _) _ _ s
        rw [hT, Bool.false_and, if_neg Bool.false_ne_true]
        exact wpAny_pure ⟨P, _, Le.refl _, g, h⟩
      all_goals exact wpAny_pure ⟨P, _, Le.refl _, g, h⟩
    all_goals exact T3.pure h
  all_goals exact T3.pure h
theorem C3.forW {it : Addr} {φ : Nat → Obj → Prop} {n : Nat} {item : Nat → Value → Prop} {P₀ : Vw} {target : Expr} {body orelse : List Stmt} {R : Result → Vw → St → Prop} (W : Wkr c P₀ it φ n item) (hA : A.handled = none) (I : Nat → Vw → St → Prop)
    (step : ∀ i v P' σ', Le P₀ P' → i < n → item i v → I i P' σ' → T3 c A (assign target env v) P' σ' (kBd c A env body R (I (i + 1))) NoE)
    (stop : ∀ P' σ', Le P₀ P' → I n P' σ' → T3 c A (execs orelse env) P' σ' (kDn R) NoE) :
    ∀ (k i : Nat) (P' : Vw) (σ' : St), i + k = n → Le P₀ P' → I i P' σ' → C3 c A (.forLoop target (.ref it) body orelse env) P' ((it, φ i) :: σ') R := by
  have X : ∀ (k i : Nat) (P' : Vw) (σ' : St), i + k = n → Le P₀ P' → I i P' σ' → C3 c A (.forLoop target (.ref it) body orelse env) P' ((it, φ i) :: σ') (fun r P σ => R r P σ ∨ ∃ φ σ0, σ = (it, φ) :: σ0 ∧ R r P σ0) := by
    intro k
    induction k with
    | zero =>
      intro i P' σ' hi l hI
      obtain rfl : i = n := hi
      refine T3.fTurn fun τ s g => W.stop hA l g fun s' g' => ⟨P', σ', Le.refl _, g', ?_⟩
      exact (stop P' σ' l hI).conseq fun f _ _ _ h => .inl h
    | succ k ih =>
      intro i P' σ' hi l hI
      refine T3.fTurn fun τ s g => W.next hA l (by omega) g fun v s' g' hv => ⟨P', _, Le.refl _, g', ?_⟩
      refine T3.ownGo (W.plain (i + 1)) ?_
      have fr : ∀ {β : Type} {t : Sem β} {P1 : Vw} {σ1 : St} {Q₁ Q₂ : β → Vw → St → Prop}, T3 c A t P1 σ1 Q₁ NoE → (∀ b P2 σ2, Le P1 P2 → Q₁ b P2 σ2 → Q₂ b P2 ((it, φ (i + 1)) :: σ2)) → T3 c A t P1 ((it, φ (i + 1)) :: σ1) Q₂ NoE := fun {β t P1 σ1 Q₁ Q₂} h k =>
        T3.frame (σ₁ := σ1) (σ₂ := [(it, φ (i + 1))]) (List.perm_append_comm (l₁ := [_])) h (fun σ' => (it, φ (i + 1)) :: σ') (fun σ' => List.perm_append_comm (l₂ := [_])) k fun _ _ _ _ z => z
      refine fr (step i v P' σ' l (by omega) hv hI) fun _ P2 σ2 l2 h => ?_
      refine fr h fun f P4 σ4 l4 h => ?_
      cases f with
      | next => exact ih (i + 1) P4 σ4 (by omega) (l.trans (l2.trans l4)) h
      | cont => exact ih (i + 1) P4 σ4 (by omega) (l.trans (l2.trans l4)) h
      | brk => exact .inr ⟨_, _, rfl, h⟩
      | ret v => exact .inr ⟨_, _, rfl, h⟩
  intro k i P' σ' hi l hI τ s g
  refine codeAny_mono (X k i P' σ' hi l hI τ s g) fun r s' ⟨P2, σ2, l2, g2, q⟩ => ?_
  rcases q with q | ⟨φ, σ0, rfl, q⟩
  · exact i2x3 P2 σ2 l2 g2 q
  · exact i2x3 P2 σ0 l2 ⟨g2.ok.drop, g2.gens, g2.os⟩ q

/-! the kinds -/
noncomputable def ItL (T : String) (l : Addr) (i : Nat) (o : Obj) : Prop := o.cls = .type T ∧ o.data = .fields #[.ref l, .int i 0]
theorem it_ext {τ : Vw} {s : Shared} {it : Addr} {φ : Obj → Prop} {h' : Heap} (g : Gd c P ((it, φ) :: σ) τ s) (e : Heap.ExtBut it s.heap h') {k : Nat} : Gd c P σ τ { s with heap := h', toks := k } := by
  refine e0x3 (g.ok.mu _ (.head _)) ?_; rintro _ hp ht
  have hp : P it = none := hp
  have ht : τ it = none := ht
  have nd := List.nodup_cons.mp g.ok.nd
  refine ⟨⟨g.ok.base, fun b o q => e b o (fun z => ?_) (g.ok.per b o q), fun b o q => e b o (fun z => ?_) (g.ok.frm b o q), g.ok.dis, fun x hx => ?_, nd.2⟩, g.gens, g.os⟩
  · subst z; rw [hp] at q; cases q
  · subst z; rw [ht] at q; cases q
  · obtain ⟨⟨o, ho, hφ⟩, r⟩ := g.ok.mu x (.tail _ hx)
    exact ⟨⟨o, e _ _ (fun q => nd.1 (List.mem_map.mpr ⟨x, hx, q⟩)) ho, hφ⟩, r⟩
theorem it_but {τ : Vw} {s : Shared} {it : Addr} {φ φ' : Obj → Prop} {h' : Heap} (g : Gd c P ((it, φ) :: σ) τ s) (e : Heap.SameBut it s.heap h') (hn : ∃ o, h'.get? it = some o ∧ φ' o) {k : Nat} : Gd c P ((it, φ') :: σ) τ { s with heap := h', toks := k } :=
  ⟨g.ok.update (fun b nb o q => (e.2 b nb).trans q) hn, g.gens, g.os⟩
theorem Wkr.list {it : Addr} (h : LiP P l xs) : Wkr c P it (ItL "list_iterator" l) xs.length (fun i v => xs[i]? = some v) where
  next := fun {A P' σ τ s i Q E} hA le hi g k => by
    obtain ⟨⟨o, ho, hc, hd⟩, _⟩ := g.ok.mu _ (.head _)
    refine wpAny_pyNext_list_item (items := xs.toArray) (x := xs[i]) ⟨o, ho, hc, hd⟩ ((h.le le).isList g) (by simp [hi]) fun h' ⟨o', x', y', z'⟩ hs => k _ _ ?_ (by simp [hi])
    exact it_but g hs ⟨_, x', y', z'⟩
  stop := fun {A P' σ τ s Q E} hA le g k => by
    obtain ⟨⟨o, ho, hc, hd⟩, _⟩ := g.ok.mu _ (.head _)
    exact wpAny_pyNext_list_end hA (items := xs.toArray) ⟨o, ho, hc, hd⟩ ((h.le le).isList g) (by simp) fun h' e => k _ (it_ext g e)
  plain := fun i o ⟨hc, _⟩ => ⟨_, hc, by decide⟩
theorem Wkr.tuple {it : Addr} (h : TuP P l xs) : Wkr c P it (ItL "tuple_iterator" l) xs.length (fun i v => xs[i]? = some v) where
  next := fun {A P' σ τ s i Q E} hA le hi g k => by
    obtain ⟨⟨o, ho, hc, hd⟩, _⟩ := g.ok.mu _ (.head _)
    refine wpAny_pyNext_tuple_item (items := xs.toArray) (x := xs[i]) ⟨o, ho, hc, hd⟩ ((h.le le).isTuple g) (by simp [hi]) fun h' ⟨o', x', y', z'⟩ hs => k _ _ ?_ (by simp [hi])
    exact it_but g hs ⟨_, x', y', z'⟩
  stop := fun {A P' σ τ s Q E} hA le g k => by
    obtain ⟨⟨o, ho, hc, hd⟩, _⟩ := g.ok.mu _ (.head _)
    exact wpAny_pyNext_tuple_end hA (items := xs.toArray) ⟨o, ho, hc, hd⟩ ((h.le le).isTuple g) (by simp) fun h' e => k _ (it_ext g e)
  plain := fun i o ⟨hc, _⟩ => ⟨_, hc, by decide⟩
noncomputable def ItS (x : Str) (t : Tok) (i : Nat) (o : Obj) : Prop := o.cls = .type "str_ascii_iterator" ∧ o.data = .fields #[.str x t, .int i 0]
theorem Wkr.str {it : Addr} {ws : List Nat} : Wkr c P it (ItS (S ws) t) ws.length (fun i v => ∃ ch t, ws[i]? = some ch ∧ v = .str (S [ch]) t) where
  next := fun {A P' σ τ s i Q E} hA le hi g k => by
    obtain ⟨⟨o, ho, hc, hd⟩, _⟩ := g.ok.mu _ (.head _)
    refine wpAny_pyNext_ascii_item (c := ws[i]) ⟨o, ho, hc, hd⟩ (by simp [S, hi]) fun h' ⟨o', x', y', z'⟩ hs => k _ _ ?_ ⟨ws[i], _, by simp [hi], rfl⟩
    exact it_but g hs ⟨_, x', y', z'⟩
  stop := fun {A P' σ τ s Q E} hA le g k => by
    obtain ⟨⟨o, ho, hc, hd⟩, _⟩ := g.ok.mu _ (.head _)
    exact wpAny_pyNext_ascii_end hA (x := S ws) (t := t) ⟨o, ho, hc, hd⟩ (by simp [S]) fun h' e => k _ (it_ext g e)
  plain := fun i o ⟨hc, _⟩ => ⟨_, hc, by decide⟩
noncomputable def ItR (n : Nat) (i : Nat) (o : Obj) : Prop := o = { cls := .type "range_iterator", dict := none, data := .fields #[rawInt i, rawInt ((n : Int) - i), rawInt 1], slots := #[] }
theorem Wkr.range {it : Addr} {n : Nat} : Wkr c P it (ItR n) n (fun i v => ∃ t, v = .int i t) where
  next := fun {A P' σ τ s i Q E} hA le hi g k => by
    obtain ⟨⟨o, ho, e⟩, _⟩ := g.ok.mu _ (.head _)
    have e : o = _ := e
    subst e
    refine wpAny_pyNext_range_item (x := i) (left := (n : Int) - i) (step := 1) ho (by omega) fun h' x' hs => k _ _ ?_ ⟨_, rfl⟩
    refine it_but g hs ⟨_, x', ?_⟩
    show _ = _
    have e1 : ((i : Int) + 1) = ((i + 1 : Nat) : Int) := by omega
    have e2 : (n : Int) - i - 1 = (n : Int) - ((i + 1 : Nat) : Int) := by omega
    rw [e1, e2]
  stop := fun {A P' σ τ s Q E} hA le g k => by
    obtain ⟨⟨o, ho, e⟩, _⟩ := g.ok.mu _ (.head _)
    have e : o = _ := e
    subst e
    exact wpAny_pyNext_range_end hA (x := n) (left := (n : Int) - n) (step := 1) ho (by omega) fun h' e => k _ (it_ext g e)
  plain := fun i o e => ⟨_, (congrArg Obj.cls e), by decide⟩

noncomputable abbrev ForR (c : Cx) (A : Around) (env : Env) (target : Expr) (body orelse : List Stmt) (P : Vw) (n : Nat) (item : Nat → Value → Prop) (I : Nat → Vw → St → Prop) (R : Result → Vw → St → Prop) : Prop :=
  (∀ i v P' σ', Le P P' → i < n → item i v → I i P' σ' → T3 c A (assign target env v) P' σ' (kBd c A env body R (I (i + 1))) NoE)
  ∧ (∀ P' σ', Le P P' → I n P' σ' → T3 c A (execs orelse env) P' σ' (kDn R) NoE)

variable {target : Expr} {body orelse : List Stmt} {R : Result → Vw → St → Prop}
theorem T3.itLi (h : LiP P l xs) (hA : A.handled = none) (I : Nat → Vw → St → Prop) (h0 : I 0 P σ) (hs : ForR c A env target body orelse P xs.length (fun i v => xs[i]? = some v) I R) :
    T3 c A (pyIter (.ref l)) P σ (kFor c A env target body orelse R) E := fun τ s g =>
  wpAny_pyIter_list (h.isList g) ⟨P, (_, ItL "list_iterator" l 0) :: σ, Le.refl _, ⟨g.ok.pushM rfl ⟨rfl, rfl⟩, g.gens, g.os⟩, C3.forW (Wkr.list h) hA I hs.1 hs.2 xs.length 0 P σ (by omega) (Le.refl _) h0⟩
theorem T3.itTu (h : TuP P l xs) (hA : A.handled = none) (I : Nat → Vw → St → Prop) (h0 : I 0 P σ) (hs : ForR c A env target body orelse P xs.length (fun i v => xs[i]? = some v) I R) :
    T3 c A (pyIter (.ref l)) P σ (kFor c A env target body orelse R) E := fun τ s g =>
  wpAny_pyIter_tuple (h.isTuple g) ⟨P, (_, ItL "tuple_iterator" l 0) :: σ, Le.refl _, ⟨g.ok.pushM rfl ⟨rfl, rfl⟩, g.gens, g.os⟩, C3.forW (Wkr.tuple h) hA I hs.1 hs.2 xs.length 0 P σ (by omega) (Le.refl _) h0⟩
theorem T3.itS {ws : List Nat} (ha : ws.all (· < 128) = true) (hA : A.handled = none) (I : Nat → Vw → St → Prop) (h0 : I 0 P σ) (hs : ForR c A env target body orelse P ws.length (fun i v => ∃ ch t, ws[i]? = some ch ∧ v = .str (S [ch]) t) I R) :
    T3 c A (pyIter (.str (S ws) t)) P σ (kFor c A env target body orelse R) E := fun τ s g =>
  wpAny_pyIter_ascii (by simpa [S] using ha) ⟨P, (_, ItS (S ws) t 0) :: σ, Le.refl _, ⟨g.ok.pushM rfl ⟨rfl, rfl⟩, g.gens, g.os⟩, C3.forW Wkr.str hA I hs.1 hs.2 ws.length 0 P σ (by omega) (Le.refl _) h0⟩
/-- for .. in range(n) -/
noncomputable def RaP (P : Vw) (l : Addr) (n : Int) : Prop := ∃ t u v, P l = some { cls := .type "range", dict := none, data := .fields #[.int 0 t, .int n u, .int 1 v], slots := #[] }
theorem T3.newRa {n : Int} (h : ∀ a P', Le P P' → RaP P' a n → Q (.ref a) P' σ) : T3 c A (PySem.call (.type "range") [.int n t]) P σ Q E := fun τ s g =>
  call_range_1 (by
    have g' : ∀ k, Gd c P σ τ { s with toks := k } := fun k => g.toks k
    exact ⟨_, σ, le_put g.ok.fresh.1, ⟨(g'  _).ok.pushP rfl, g.gens, g.os⟩, h _ _ (le_put g.ok.fresh.1) ⟨_, _, _, put_self⟩⟩)
theorem T3.itRa {n : Nat} (hl : RaP P l n) (hn : n < 2 ^ 62) (hA : A.handled = none) (I : Nat → Vw → St → Prop) (h0 : I 0 P σ) (hs : ForR c A env target body orelse P n (fun i v => ∃ t, v = .int i t) I R) :
    T3 c A (pyIter (.ref l)) P σ (kFor c A env target body orelse R) E := fun τ s g => by
  refine e3x1 (hl) ?_; rintro t u v e
  refine wpAny_pyIter_range (g.ok.per _ _ e) (small_one (by omega) (by omega) (by omega) (by omega)) ⟨P, (_, ItR n 0) :: σ, Le.refl _, ⟨g.ok.pushM rfl ?_, g.gens, g.os⟩, C3.forW Wkr.range hA I hs.1 hs.2 n 0 P σ (by omega) (Le.refl _) h0⟩
  show _ = _
  rw [rangeSize_one]
  have : (if (0 : Int) < n then (n : Int) - 0 else 0) = (n : Int) - ((0 : Nat) : Int) := by split <;> omega
  rw [this]; rfl
end
end Mine
end
section
open PySem PySem.W PySem.Calls PyProof.Rows
namespace Mine
/-! comprehensions -/
noncomputable def ItK (c : Cx) (P : Vw) (xv : Value) (n : Nat) (item : Nat → Value → Prop) : Prop :=
  ∀ (A : Around) (σ : St) (τ : Vw) (s : Shared) (Q : Value → Shared → Prop) (E : Value → Shared → Prop), A.handled = none → Gd c P σ τ s →
    (∀ it φ s', Wkr c P it φ n item → (∀ (A : Around) (P' : Vw) (σ' : St) (τ' : Vw) (s : Shared) (Q : Value → Shared → Prop) (E : Value → Shared → Prop), Gd c P' ((it, φ 0) :: σ') τ' s → Q (.ref it) s → wpAny (model c.prog c.w) A (pyIter (.ref it)) Q E s) →
      Gd c P ((it, φ 0) :: σ) τ s' → Q (.ref it) s') → wpAny (model c.prog c.w) A (pyIter xv) Q E s
noncomputable def ins2 (y : Addr × (Obj → Prop)) : St → St
  | [] => [y]
  | x :: r => x :: y :: r
theorem ins2_perm (y : Addr × (Obj → Prop)) (σ : St) : (y :: σ).Perm (ins2 y σ) := by cases σ with | nil => exact .refl _ | cons x r => exact .swap ..
section
variable {α : Type} {c : Cx} {A : Around} {P : Vw} {σ : St} {E : Value → Vw → St → Prop} {env : Env} {Q : Value → Vw → St → Prop} {pos : Pos} {a l : Addr} {xs : List Value} {v : Value} {t : Tok}
theorem ItK.li (h : LiP P l xs) : ItK c P (.ref l) xs.length (fun i v => xs[i]? = some v) := fun A σ τ s Q E hA g k =>
  wpAny_pyIter_list (h.isList g) (k _ (ItL "list_iterator" l) _ (Wkr.list h) (fun A P' σ' τ' s Q E g q => by
    obtain ⟨⟨o, ho, hc, hd⟩, _⟩ := g.ok.mu _ (.head _)
    exact wpAny_pyIter_listiter ⟨o, ho, hc, hd⟩ q) ⟨g.ok.pushM rfl ⟨rfl, rfl⟩, g.gens, g.os⟩)
theorem ItK.str {ws : List Nat} (ha : ws.all (· < 128) = true) : ItK c P (.str (S ws) t) ws.length (fun i v => ∃ ch t, ws[i]? = some ch ∧ v = .str (S [ch]) t) := fun A σ τ s Q E hA g k =>
  wpAny_pyIter_ascii (by simpa [S] using ha) (k _ (ItS (S ws) t) _ Wkr.str (fun A P' σ' τ' s Q E g q => by
    obtain ⟨⟨o, ho, hc, hd⟩, _⟩ := g.ok.mu _ (.head _)
    exact wpAny_pyIter_striter_ascii ⟨o, ho, hc, hd⟩ q) ⟨g.ok.pushM rfl ⟨rfl, rfl⟩, g.gens, g.os⟩)

noncomputable abbrev cE (scope : Scope) (cl : List (Str × Addr)) (C : Addr) (env : Env) : Env := { scope := relabel scope env, locals := C, globals := env.globals, cells := cl, qual := env.qual, func := none, code := env.code, frame := env.frame, builtins := env.builtins }
noncomputable def useP (c : Cx) (A : Around) (use : Option (Value → Sem Unit)) (Q : Value → Vw → St → Prop) (E : Value → Vw → St → Prop) (v : Value) (P : Vw) (σ : St) : Prop := match use with
  | none => Q v P σ
  | some u => T3 c A (u v) P σ (fun _ => Q .none) E
structure CompP (c : Cx) (A : Around) (env : Env) (scope : Scope) (cl : List (Str × Addr)) (x : Str) (elt : Expr) (use : Option (Value → Sem Unit)) (Q : Value → Vw → St → Prop) (E : Value → Vw → St → Prop) (xv : Value) (P : Vw) (σ : St)
    (n : Nat) (item : Nat → Value → Prop) (F : Nat → Value → Vw → Prop) : Prop where
  it : ItK c P xv n item
  sz : n ≤ sizeLine
  mono : ∀ i y P2 P3, Le P2 P3 → F i y P2 → F i y P3
  elt : ∀ C i v P2, Le P P2 → i < n → item i v → T3 c A (eval elt (cE scope cl C env)) P2 ((C, NsP [(x, v)]) :: σ) (fun y P3 σ3 => σ3 = (C, NsP [(x, v)]) :: σ ∧ F i y P3) NoE
  fin : ∀ D ys P2, Le P P2 → ys.length = n → (∀ i y, ys[i]? = some y → F i y P2) → useP c A use Q E (.ref D) P2 (ins2 (D, IsLi ys) σ)

theorem C3.compLoop {x : Str} {px : Pos} {iter elt : Expr} {scope : Scope} {cl : List (Str × Addr)} {it D C : Addr} {φ : Nat → Obj → Prop} {n : Nat} {item : Nat → Value → Prop} {F : Nat → Value → Vw → Prop} {P₁ : Vw}
    (hA : A.handled = none) (hk : scope.kind = .function) (hx : scope.names.lookup x = some .local) (W : Wkr c P₁ it φ n item) (hn : n ≤ sizeLine) (hm : ∀ i y P2 P3, Le P2 P3 → F i y P2 → F i y P3)
    (helt : ∀ C i v P2, Le P₁ P2 → i < n → item i v → T3 c A (eval elt (compEnvC scope cl C env)) P2 ((C, NsP [(x, v)]) :: σ) (fun y P3 σ3 => σ3 = (C, NsP [(x, v)]) :: σ ∧ F i y P3) NoE) :
    ∀ (k i : Nat) (P' : Vw) (ys : List Value) (m : Lo), i + k = n → Le P₁ P' → ys.length = i → (∀ j y, ys[j]? = some y → F j y P') →
      C3 c A (.compLoop (.ListComp elt [⟨.Name x px, iter, [], 0⟩] scope pos) 0 (.ref it) (.ref D) (compEnvC scope cl C env)) P' ((it, φ i) :: (D, IsLi ys) :: (C, NsP m) :: σ)
        (fun r P2 σ2 => (∃ f, r = .ok f) ∧ Le P₁ P2 ∧ ∃ ys m, σ2 = (D, IsLi ys) :: (C, NsP m) :: σ ∧ ys.length = n ∧ ∀ j y, ys[j]? = some y → F j y P2) := by
  intro k
  induction k with
  | zero =>
    intro i P' ys m hi le hy hF
    obtain rfl : i = n := hi
    intro τ s g
    refine codeAny_of_tree ?_
    rw [Around.under_of_weight (by rfl) (by rfl)]
    show wpAny _ A ((compTurn (.ListComp elt [⟨.Name x px, iter, [], 0⟩] scope pos) 0 (.ref it) (.ref D) (compEnvC scope cl C env)).onRaise (fun x => do noteFrame x _; theTreesLotGoes x)) _ _ s
    rw [compTurn_list1]
    refine wpAny_onRaise (wpAny_bind (wpAny_standAt (wpAny_bind (W.stop hA le g fun s' g' => ?_))))
    exact wpAny_pure ⟨P', _, Le.refl _, g', ⟨_, rfl⟩, le, ys, m, rfl, hy, hF⟩
  | succ k ih =>
    intro i P' ys m hi le hy hF
    have tn : T3 c A (compTurn (.ListComp elt [⟨.Name x px, iter, [], 0⟩] scope pos) 0 (.ref it) (.ref D) (compEnvC scope cl C env)) P' ((it, φ i) :: (D, IsLi ys) :: (C, NsP m) :: σ)
        (fun fin P2 σ2 => fin = .again (.compLoop (.ListComp elt [⟨.Name x px, iter, [], 0⟩] scope pos) 0 (.ref it) (.ref D) (compEnvC scope cl C env)) ∧ Le P₁ P2 ∧
          ∃ ys' m', σ2 = (it, φ (i + 1)) :: (D, IsLi ys') :: (C, NsP m') :: σ ∧ ys'.length = i + 1 ∧ ∀ j y, ys'[j]? = some y → F j y P2) NoE := by
      rw [compTurn_list1]
      refine T3.bind (T3.standAt (T3.bind fun τ s g => W.next hA le (by omega) g fun v s' g' hv => ⟨P', _, Le.refl _, g', ?_⟩))
      refine T3.bind (T3.ownGo (W.plain (i + 1)) (T3.bind (T3.aName ?_)))
      refine T3.perm (List.perm_middle (l₁ := [_, _])) (T3.st (m := m) (lookup_relabel_local hx) ?_ (by show (scope.kind == .class || (scope.kind == .module && _)) = false; rw [hk]; rfl))
      refine T3.forget (m' := [(x, v)]) (fun y u e => by
        rw [List.lookup_cons] at e ⊢
        cases q : y == x with
        | true => rw [q] at e; simpa using e
        | false => rw [q] at e; simp at e) ?_
      refine T3.bind (T3.bind ?_)
      refine T3.frame (σ₁ := (C, NsP [(x, v)]) :: σ) (σ₂ := [(it, φ (i + 1)), (D, IsLi ys)]) ((List.perm_append_comm (l₁ := [_, _])).cons _) (helt C i v P' le (by omega) hv) (fun σ' => (it, φ (i + 1)) :: (D, IsLi ys) :: σ') (fun σ' => List.perm_append_comm) ?_ fun _ _ _ _ z => z
      intro y P2 σ2 l2 ⟨e, hy2⟩
      subst e
      refine T3.bind (T3.lAppend (pre := [(it, φ (i + 1))]) (a := D) (xs := ys) (v := y) (by omega) ?_)
      refine T3.pure (T3.pure ?_)
      refine ⟨rfl, le.trans l2, i2x3 _ _ rfl (by rw [List.length_append, hy]; rfl) (fun j z hz => ?_)⟩
      by_cases q : j < ys.length
      · rw [List.getElem?_append_left q] at hz
        exact hm _ _ _ _ l2 (hF j z hz)
      · rw [List.getElem?_append_right (Nat.le_of_not_lt q)] at hz
        have : j - ys.length = 0 := by
          rcases Nat.eq_zero_or_pos (j - ys.length) with h | h
          · exact h
          · rw [List.getElem?_eq_none (by simp only [List.length_singleton]; omega)] at hz; cases hz
        rw [this] at hz
        obtain rfl : y = z := by simpa using hz
        obtain rfl : j = i := hy ▸ Nat.le_antisymm (Nat.le_of_sub_eq_zero this) (Nat.le_of_not_lt q)
        exact hy2
    intro τ s g
    refine codeAny_of_tree ?_
    rw [Around.under_of_weight (by rfl) (by rfl)]
    show wpAny _ A ((compTurn (.ListComp elt [⟨.Name x px, iter, [], 0⟩] scope pos) 0 (.ref it) (.ref D) (compEnvC scope cl C env)).onRaise (fun x => do noteFrame x _; theTreesLotGoes x)) _ _ s
    refine wpAny_onRaise (wpAny_mono (tn τ s g) (fun fin s' ⟨P2, σ2, l2, g2, hfin, le2, ys', m', e, hl', hF'⟩ => ?_) fun _ _ ⟨_, _, _, _, z⟩ => z.elim)
    subst e; subst hfin
    exact ⟨rfl, codeAny_mono (ih (i + 1) P2 ys' m' (by rw [Nat.add_right_comm]; exact hi) le2 hl' hF' τ s' g2) fun r s'' ⟨P3, σ3, l3, g3, q⟩ => ⟨P3, σ3, l2.trans l3, g3, q⟩⟩

theorem Gd.reC {τ : Vw} {s : Shared} {C : Addr} {φ : Obj → Prop} {h' : Heap} {k : Nat} {σ' : St} (p : σ.Perm ((C, φ) :: σ')) (g : Gd c P σ τ s) (hs : Heap.SameBut C s.heap h') : Gd c P σ' τ { s with heap := h' } :=
  it_ext (k := s.toks) ⟨g.ok.perm p, g.gens, g.os⟩ hs.extBut

theorem T3.compC {x : Str} {px p2 : Pos} {iter elt : Expr} {scope : Scope} {cl : List (Str × Addr)} {first : Sem Value} {use : Option (Value → Sem Unit)} (hA : A.handled = none) (hs : ∀ x, foldedSetIterable iter env x = Pure.pure x) (hclos : closureFor scope env = Pure.pure cl)
    (hcell : (scope.names.all fun x => decide (x.2 ≠ .cell)) = true) (hk : scope.kind = .function) (hnames : (scope.names.all fun x => x.2 != .local || decide (scope.names.lookup x.1 = some .local)) = true) (hx : scope.names.lookup x = some .local)
    (h : T3 c A first P σ (fun xv P1 σ1 => ∃ n item F, CompP c A env scope cl x elt use Q E xv P1 σ1 n item F) E) :
    T3 c A (comprehension (.ListComp elt [⟨.Name x px, iter, [], 0⟩] scope pos) scope env p2 (newList []) false first use) P σ Q E := by
  intro τ s g
  refine wpAny_comprehension_free rfl hs hclos hk (fun x hx hl => ?_) (wpAny_mono (h τ s g) (fun xv s1 ⟨P1, σ1, l1, g1, n, item, F, W⟩ => W.it A σ1 τ s1 _ _ hA g1 fun it φ s2 Wk again g2 => ?_) fun _ _ ⟨P2, σ2, l2, g2, q2⟩ => ⟨P2, σ2, l2, g2, q2⟩)
  · have := List.all_eq_true.mp hnames x hx
    rw [hl] at this
    simpa using this
  refine wpAny_newList ?_
  have g3 := g2.ok.pushM (o := { cls := .type "list", data := .seq ([] : List Value).toArray }) (φ := IsLi []) rfl ⟨_, rfl⟩
  generalize s2.heap.objs.size = D at g3 ⊢
  refine wpAny_newFunctionEnv (fun x hx => of_decide_eq_true (List.all_eq_true.mp hcell x hx)) (fun x hx => nomatch hx) (fun h' hns hsb => ?_) hk
  dsimp only [Option.isSome_some, if_true] at hns hsb ⊢
  generalize s2.heap.push { cls := .type "list", data := .seq ([] : List Value).toArray } = H3 at g3 hns hsb ⊢
  have g4 : Ok c P1 ((H3.objs.size, NsP []) :: (D, IsLi []) :: (it, φ 0) :: σ1) τ h' := by
    have := g3.pushM (o := { cls := .type "dict", data := .dict #[] }) (φ := fun _ => True) rfl trivial
    exact this.update (fun b nb o e => (hsb.2 b nb).trans e) (of_ns hns fun _ _ e => e)
  generalize H3.objs.size = C at g4 hns hsb ⊢
  have g5 : Gd c P1 ((it, φ 0) :: (D, IsLi []) :: (C, NsP []) :: σ1) τ { s2 with heap := h', toks := s2.toks + ([] : List (Str × Value)).length } := by
    refine ⟨g4.perm ?_, g2.gens, g2.os⟩
    exact (List.perm_middle (l₁ := [_, _])).trans (((List.Perm.swap ..)).cons _)
  have loop : codeAny (model c.prog c.w) A (.compLoop (.ListComp elt [⟨.Name x px, iter, [], 0⟩] scope pos) 0 (.ref it) (.ref D) (compEnvC scope cl C env))
      (compPost (model c.prog c.w) A (fun e s' => ∃ P' σ', Le P P' ∧ Gd c P' σ' τ s' ∧ E e P' σ') use (fun a s' => ∃ P' σ', Le P P' ∧ Gd c P' σ' τ s' ∧ Q a P' σ') (.ref D) C) { s2 with heap := h', toks := s2.toks + ([] : List (Str × Value)).length } := by
    refine codeAny_mono (C3.compLoop hA hk hx Wk W.sz W.mono W.elt n 0 P1 [] [] (by omega) (Le.refl _) rfl (fun j y e => by simp at e) τ _ g5) fun r s' ⟨P2, σ2, l2, g6, ⟨f, hf⟩, le2, ys, m, e, hl', hF'⟩ => ?_
    subst e; subst hf
    have fin := W.fin D ys P2 le2 hl' hF'
    cases use with
    | none =>
      obtain ⟨⟨oC, hoC, nC⟩, _⟩ := g6.ok.mu (C, NsP m) (.tail _ (.head _))
      refine e1x2 (ns_of hoC nC) ?_; rintro mf hnC _
      refine i1x2 mf hnC (fun h'' hs'' => ⟨P2, _, l1.trans l2, Gd.reC (φ := NsP m) (k := 0) ?_ g6 hs'', fin⟩)
      exact (List.Perm.swap ..).trans ((ins2_perm _ _).cons _)
    | some u =>
      have fin : T3 c A (u (.ref D)) P2 (ins2 (D, IsLi ys) σ1) (fun _ => Q .none) E := fin
      have fin2 : T3 c A (u (.ref D)) P2 ((D, IsLi ys) :: (C, NsP m) :: σ1) (fun _ P3 σ3 => ∃ σ4, σ3 = (C, NsP m) :: σ4 ∧ Q .none P3 σ4) (fun e P3 σ3 => ∃ σ4, σ3 = (C, NsP m) :: σ4 ∧ E e P3 σ4) :=
        T3.frame (σ₁ := ins2 (D, IsLi ys) σ1) (σ₂ := [(C, NsP m)]) ((List.Perm.swap ..).trans (((ins2_perm _ _).cons _).trans (List.perm_append_comm (l₁ := [_])))) fin (fun σ' => (C, NsP m) :: σ') (fun σ' => List.perm_append_comm (l₂ := [_])) (fun _ _ _ _ q => ⟨_, rfl, q⟩) fun _ _ _ _ q => ⟨_, rfl, q⟩
      refine wpAny_mono (fin2 τ s' g6) (fun _ s'' ⟨P3, σ3, l3, g7, σ4, e, q⟩ => ?_) fun e s'' ⟨P3, σ3, l3, g7, σ4, e', q⟩ => ?_
      · subst e
        obtain ⟨⟨oC, hoC, nC⟩, _⟩ := g7.ok.mu (C, NsP m) (.head _)
        refine e1x2 (ns_of hoC nC) ?_; rintro mf hnC _
        exact i1x2 mf hnC (fun h'' hs'' => ⟨P3, _, l1.trans (l2.trans l3), Gd.reC (φ := NsP m) (k := 0) (List.Perm.refl _) g7 hs'', q⟩)
      · subst e'
        exact i2x3 P3 σ4 (l1.trans (l2.trans l3)) ⟨g7.ok.drop, g7.gens, g7.os⟩ q
  refine codeAny_compStart_list loop (again A P1 _ τ _ _ _ ⟨g5.ok, g5.gens, g5.os⟩ loop)
theorem T3.eLC {x : Str} {px : Pos} {iter elt : Expr} {scope : Scope} {cl : List (Str × Addr)} (hA : A.handled = none) (hs : ∀ x, foldedSetIterable iter env x = Pure.pure x) (hclos : closureFor scope env = Pure.pure cl)
    (hcell : (scope.names.all fun x => decide (x.2 ≠ .cell)) = true) (hk : scope.kind = .function) (hnames : (scope.names.all fun x => x.2 != .local || decide (scope.names.lookup x.1 = some .local)) = true) (hx : scope.names.lookup x = some .local)
    (h : T3 c A (eval iter env) P σ (fun xv P1 σ1 => ∃ n item F, CompP c A env scope cl x elt none Q E xv P1 σ1 n item F) E) :
    T3 c A (eval (.ListComp elt [⟨.Name x px, iter, [], 0⟩] scope pos) env) P σ Q E := by
  rw [eval_ListComp]
  exact T3.compC hA hs hclos hcell hk hnames hx h
theorem T3.sLC {x y : Str} {px py spos : Pos} {iter elt : Expr} {scope : Scope} {cl : List (Str × Addr)} {Q : Flow → Vw → St → Prop} (hsw : swapsWith (.ListComp elt [⟨.Name x px, iter, [], 0⟩] scope pos) (some (.Name y py)) spos.line env = Pure.pure true)
    (hA : A.handled = none) (hs : ∀ x, foldedSetIterable iter env x = Pure.pure x) (hclos : closureFor scope env = Pure.pure cl)
    (hcell : (scope.names.all fun x => decide (x.2 ≠ .cell)) = true) (hk : scope.kind = .function) (hnames : (scope.names.all fun x => x.2 != .local || decide (scope.names.lookup x.1 = some .local)) = true) (hx : scope.names.lookup x = some .local)
    (h : T3 c A (eval iter env) P σ (fun xv P1 σ1 => ∃ n item F, CompP c A env scope cl x elt (some (assign (.Name y py) env)) (fun _ => Q .next) E xv P1 σ1 n item F) E) :
    T3 c A (exec (.Assign [.Name y py] (.ListComp elt [⟨.Name x px, iter, [], 0⟩] scope pos) spos) env) P σ Q E := by
  rw [exec_Assign_Name_used _ _ _ _ hsw]
  refine T3.bind (T3.standAt (T3.bind ?_))
  show T3 c A (do let _ ← comprehension (.ListComp elt [⟨.Name x px, iter, [], 0⟩] scope pos) scope env _ (newList []) false (eval iter env) (some (assign (.Name y py) env))) P σ _ E
  refine T3.bind ((T3.compC (Q := fun _ => Q .next) hA hs hclos hcell hk hnames hx h).conseq fun _ _ _ _ q => T3.pure (T3.pure q))
end
end Mine
end
section
open PySem PySem.W PySem.Calls PyProof.Rows
namespace Mine
/-! fields -/
noncomputable abbrev Fs := List (Str × Value)
inductive EsF : Fs → List DictEntry → Prop
  | nil : EsF [] []
  | cons {n v fs e es} (hk : ∃ t, e.key = .str n t) (hv : e.val = v) (r : EsF fs es) : EsF ((n, v) :: fs) (e :: es)
noncomputable def IsF (fs : Fs) (o : Obj) : Prop := ∃ es k, o = dictOf es k ∧ EsF fs es
noncomputable def FdP (P : Vw) (dx : Addr) (fs : Fs) : Prop := ∃ o, P dx = some o ∧ IsF fs o
noncomputable def InP (P : Vw) (x C : Addr) (fs : Fs) : Prop := ∃ dx, P x = some (instObj C dx) ∧ FdP P dx fs
theorem FdP.le {P P' : Vw} {a : Addr} {fs : Fs} (l : Le P P') (h : FdP P a fs) : FdP P' a fs := let ⟨o, e, r⟩ := h; ⟨o, l _ _ e, r⟩
theorem InP.le {P P' : Vw} {x C : Addr} {fs : Fs} (l : Le P P') (h : InP P x C fs) : InP P' x C fs := let ⟨dx, e, r⟩ := h; ⟨dx, l _ _ e, r.le l⟩
noncomputable def setF (n : Str) (v : Value) : Fs → Fs
  | [] => [(n, v)]
  | (m, u) :: r => if m == n then (m, v) :: r else (m, u) :: setF n v r
theorem EsF.len {fs : Fs} {es : List DictEntry} (h : EsF fs es) : es.length = fs.length := by induction h with | nil => rfl | cons _ _ _ ih => simp [ih]
theorem EsF.keys {fs : Fs} {es : List DictEntry} (h : EsF fs es) : es.any (·.refKey) = false := by
  induction h with
  | nil => rfl
  | cons hk _ _ ih =>
    obtain ⟨t, hk⟩ := hk
    rw [List.any_cons, ih, Bool.or_false]
    unfold DictEntry.refKey
    rw [hk]
theorem EsF.get {fs : Fs} {es : List DictEntry} (h : EsF fs es) (n : Str) : getL n es = some (fs.lookup n) := by
  have key : ∀ {fs : Fs} {es : List DictEntry}, EsF fs es → (es.find? (·.key.isStr n)).map (·.val) = fs.lookup n := by
    intro fs es h
    induction h with
    | nil => rfl
    | @cons m v fs e es hk hv r ih =>
      obtain ⟨t, hk⟩ := hk
      rw [List.find?_cons, List.lookup_cons]
      have : e.key.isStr n = (n == m) := by
        rw [hk]
        show (m == n) = (n == m)
        rw [Bool.eq_iff_iff, beq_iff_eq, beq_iff_eq]; exact eq_comm
      rw [this]
      cases n == m with
      | true => simp [hv]
      | false => exact ih
  unfold getL
  rw [← key h]
  cases hf : es.find? (·.key.isStr n) with
  | some e => rfl
  | none => simp [h.keys]
theorem EsF.put {fs : Fs} {es : List DictEntry} (h : EsF fs es) (n : Str) (v : Value) (hsh : Int) (t : Tok) : EsF (setF n v fs) (putL n hsh (.str n t) v es) := by
  induction h with
  | nil => exact .cons ⟨t, rfl⟩ rfl .nil
  | @cons m u fs e es hk hv r ih =>
    obtain ⟨t', hk⟩ := hk
    unfold setF putL
    have : e.key.isStr n = (m == n) := by rw [hk]; rfl
    rw [this]
    cases m == n with
    | true => exact .cons ⟨t', hk⟩ rfl r
    | false => exact .cons ⟨t', hk⟩ hv ih

section
variable {α : Type} {c : Cx} {A : Around} {P : Vw} {σ : St} {E : Value → Vw → St → Prop} {env : Env} {Q : Value → Vw → St → Prop} {pos : Pos} {x C dx a l L : Addr} {xs : List Value} {v : Value} {t : Tok} {fs fs' : Fs} {m : Lo} {n : Str} {b : Bool}
theorem T3.gI (kf : KF c) (hx : InP P x C fs) (hC : clsTab.contains C = true) (hi : instTab.contains (C, n) = true) (hl : fs.lookup n = some v) (hv : handedIn v = true) (h : Q v P σ) : T3 c A (getAttr (.ref x) n b) P σ Q E := by
  obtain ⟨dx, h1, o, h2, es, k, rfl, he⟩ := hx
  exact T3.getI h1 h2 (kf.cls _ hC) (kf.inst _ _ hi) ((he.get n).trans (congrArg some hl)) hv h
theorem T3.gM (kf : KF c) (hx : P x = some (instObj C dx)) (hm : (dx, IsF fs) ∈ σ) (hC : clsTab.contains C = true) (hi : instTab.contains (C, n) = true) (hl : fs.lookup n = some v) (hv : handedIn v = true) (h : Q v P σ) : T3 c A (getAttr (.ref x) n b) P σ Q E :=
  T3.getM hx hm (kf.cls _ hC) (kf.inst _ _ hi) fun o ⟨es, k, e, he⟩ => ⟨es, k, v, e, (he.get n).trans (congrArg some hl), hv, h⟩
theorem T3.gC (kf : KF c) (hx : InP P x C fs) (hC : clsTab.contains C = true) (hi : constTab.lookup (C, n) = some v) (hl : fs.lookup n = none) (hv : handedIn v = true) (hcn : copiedNames.contains n = false) (h : Q v P σ) : T3 c A (getAttr (.ref x) n b) P σ Q E := by
  obtain ⟨dx, h1, o, h2, es, k, rfl, he⟩ := hx
  exact T3.getC h1 h2 (kf.cls _ hC) (kf.const _ _ _ hi).1 (kf.const _ _ _ hi).2 hv hcn ((he.get n).trans (congrArg some hl)) h
theorem T3.mFI {f : Addr} {es : List Expr} {pl : Sem Bool} {p2 : Pos} (kf : KF c) (hx : InP P x C fs) (hC : clsTab.contains C = true) (hf : methTab.lookup (C, n) = some f) (hfn : fnList.contains f = true) (hl : fs.lookup n = none)
    (h : T3 c A (PySem.callWith p2 (.ref f) [.ref x] (argTs es env) []) P σ Q E) : T3 c A (getMethod (.ref x) n pl) P σ (kCm2 c A env E p2 es Q) E := by
  obtain ⟨dx, h1, o, h2, es', k, rfl, he⟩ := hx
  exact T3.methI h1 h2 (kf.cls C hC) (kf.meth _ _ _ hf) (kf.fn f hfn).2 ((he.get n).trans (congrArg some hl)) h
theorem T3.mFM {f : Addr} {es : List Expr} {pl : Sem Bool} {p2 : Pos} (kf : KF c) (hx : P x = some (instObj C dx)) (hm : (dx, IsF fs) ∈ σ) (hC : clsTab.contains C = true) (hf : methTab.lookup (C, n) = some f) (hfn : fnList.contains f = true) (hl : fs.lookup n = none)
    (h : T3 c A (PySem.callWith p2 (.ref f) [.ref x] (argTs es env) []) P σ Q E) : T3 c A (getMethod (.ref x) n pl) P σ (kCm2 c A env E p2 es Q) E :=
  T3.methM hx hm (kf.cls C hC) (kf.meth _ _ _ hf) (kf.fn f hfn).2 (fun o ⟨es', k, e, he⟩ => ⟨es', k, e, (he.get n).trans (congrArg some hl)⟩) h
theorem T3.setFM {Q : Unit → Vw → St → Prop} (hx : P x = some (instObj C dx)) (K : Cls c C) (ht : takerIn c.K C n = some none) (hs : setF n v fs = fs') (hz : fs'.length ≤ 1000)
    (h : Q () P ((L, NsP m) :: (dx, IsF fs') :: σ)) : T3 c A (setAttr (.ref x) n v) P ((L, NsP m) :: (dx, IsF fs) :: σ) Q E := by
  subst hs
  refine T3.setM hx K ht (fun o hsh t ⟨es, k, e, he⟩ => ⟨es, k, e, by rw [he.get]; rfl, ?_, _, _, rfl, he.put n v hsh t⟩) h
  rw [(he.put n v hsh t).len]; exact hz
/-- an object is done -/
theorem T3.freezeF {t : Sem α} {Q : α → Vw → St → Prop} {pre : St} (hx : P x = some (instObj C a)) (h : ∀ P', Le P P' → InP P' x C fs → T3 c A t P' (pre ++ σ) Q E) : T3 c A t P (pre ++ (a, IsF fs) :: σ) Q E :=
  T3.perm List.perm_middle (T3.freeze fun o hi hp => h _ (le_put hp) ⟨a, le_put hp _ _ hx, o, put_self, hi⟩)

/-! making an object -/
theorem Room.make {n : Nat} {args : List Value} (r : Room A (n + 2)) : Room (A.under (.builtin "type.__call__" ⟨.ref C :: args, []⟩)) n := by
  refine i0x3 ?_ ?_ r.2.2
  · have := r.1
    have e : (Code.builtin "type.__call__" ⟨.ref C :: args, []⟩).weight ≤ 2 := Nat.le_of_ble_eq_true (by kernel_rfl)
    show A.depth + (Code.builtin "type.__call__" ⟨.ref C :: args, []⟩).weight + n < _
    omega
  · have := r.2.1
    have e : (Code.builtin "type.__call__" ⟨.ref C :: args, []⟩).cUnits ≤ 20 := Nat.le_of_ble_eq_true (by kernel_rfl)
    show A.units + (Code.builtin "type.__call__" ⟨.ref C :: args, []⟩).cUnits + 10 * n < _
    omega
theorem made_ok {τ : Vw} {s : Shared} (g : Gd c P σ τ s) : Le P (put P (s.heap.objs.size + 1) (instObj C s.heap.objs.size)) ∧
    Gd c (put P (s.heap.objs.size + 1) (instObj C s.heap.objs.size)) ((s.heap.objs.size, IsF []) :: σ) τ { s with heap := (s.heap.push emptyDict).push (instObj C s.heap.objs.size) } := by
  have g1 := g.ok.pushM (o := emptyDict) (φ := IsF []) rfl ⟨[], 0, rfl, .nil⟩
  have g2 := g1.pushP (o := instObj C s.heap.objs.size) rfl
  have fr := g1.fresh.1
  rw [Heap.size_push] at fr g2
  exact ⟨le_put fr, g2, g.gens, g.os⟩
theorem T3.new {fI : Addr} {args : List Value} (kf : KF c) (hC : clsTab.contains C = true) (hi : methTab.lookup (C, Str.ofString "__init__") = some fI) (hfn : fnList.contains fI = true)
    (h : ∀ x dx P', Le P P' → P' x = some (instObj C dx) → C3 c (A.under (.builtin "type.__call__" ⟨.ref C :: args, []⟩)) (.call (.ref fI) ⟨.ref x :: args, []⟩) P' ((dx, IsF []) :: σ) (Ret (fun v P2 σ2 => v = .none ∧ Q (.ref x) P2 σ2) E)) :
    T3 c A (PySem.call (.ref C) args) P σ Q E := fun τ s g => by
  have hf : typeIn c.K (.ref fI) = some (.type "function") := beq_iff_eq.mp (kf.fn fI hfn).2
  obtain ⟨l, g'⟩ := made_ok (C := C) g
  have hx : put P (s.heap.objs.size + 1) (instObj C s.heap.objs.size) (s.heap.objs.size + 1) = some (instObj C s.heap.objs.size) := put_self
  have z := h _ _ _ l hx τ _ g'
  obtain ⟨hh, gg, d, t, os⟩ := s
  refine wpAny_call (make_core (makes_of g.kin (kf.mkC C hC).1) (looks_findIn g.kin (kf.meth _ _ _ hi)) (fun self => bind_fn g.kin self hf) (.inl rfl) ?_)
  refine codeAny_mono z fun r s' ⟨P', σ', l', g', q⟩ => ?_
  rcases r with e | (_ | _ | _ | v)
  · exact i2x3 P' σ' (l.trans l') g' q
  · exact q.elim
  · exact q.elim
  · exact q.elim
  · exact ⟨q.1, i2x3 P' σ' (l.trans l') g' q.2⟩
theorem T3.new0 (kf : KF c) (hm : makesIn c.K C = true) (hi : findIn c.K (.ref C) "__init__" = some (some (.builtin "object.__init__"))) (h : ∀ x P', Le P P' → InP P' x C [] → Q (.ref x) P' σ) : T3 c A (PySem.call (.ref C) []) P σ Q E := fun τ s g => by
  obtain ⟨l, g'⟩ := made_ok (C := C) g
  have hx : put P (s.heap.objs.size + 1) (instObj C s.heap.objs.size) (s.heap.objs.size + 1) = some (instObj C s.heap.objs.size) := put_self
  obtain ⟨hh, gg, d, t, os⟩ := s
  have Y := makes_of (M := model c.prog c.w) g.kin hm
  refine wpAny_call (make_core Y (looks_findIn g.kin hi) (fun self => Looks.of_pure (oi_bind self)) (.inr ⟨rfl, rfl⟩) ?_)
  have t1 : Looks (model c.prog c.w) ((hh.push emptyDict).push (instObj C hh.objs.size)) (typeOf (.ref (hh.objs.size + 1))) (.ref C) := (Looks.ld (g'.ok.per _ _ hx)).andThen .now
  have t2 : Looks (model c.prog c.w) ((hh.push emptyDict).push (instObj C hh.objs.size)) (isInstance (.ref (hh.objs.size + 1)) (.type "object")) true := t1.andThen (Y.top.keeps fun b o e => Heap.get?_push_of_some _ (Heap.get?_push_of_some _ e))
  refine codeAny_call_builtin oi_plain entry_oi (@check_slot (model c.prog c.w) _ _ _ "object.__init__" "object" "__init__" (.ref (hh.objs.size + 1)) [] [] _ oi_kind oi_split t2 (oi_args (.ref (hh.objs.size + 1))) ?_)
  rw [oi_run]
  refine e1x3 (g'.ok.freeze) ?_; rintro o hi' hp k
  exact wpAny_pure (And.intro rfl ⟨_, σ, l.trans (le_put hp), ⟨k, g.gens, g.os⟩, h _ _ (l.trans (le_put hp)) ⟨_, le_put hp _ _ hx, o, put_self, hi'⟩⟩)

/-! static methods -/
theorem T3.mSt {s f : Addr} {es : List Expr} {pl : Sem Bool} {p2 : Pos} (kf : KF c) (hs : statTab.lookup (C, n) = some (s, f))
    (h : T3 c A (PySem.callWith p2 (.ref f) [] (argTs es env) []) P σ Q E) : T3 c A (getMethod (.ref C) n pl) P σ (kCm2 c A env E p2 es Q) E := fun τ s' g => by
  refine e0x4 (kf.stat _ _ _ _ hs) ?_; rintro h1 h2 h3 h4
  refine e1x2 (Option.bind_eq_some_iff.mp h2) ?_; rintro rec hr hh
  obtain ⟨rest, rfl⟩ : ∃ rest, rec = .ref f :: rest := by
    cases rec with
    | nil => cases hh
    | cons y r => cases hh; exact ⟨r, rfl⟩
  refine method_cls g.kin h4 (cls_bind g.kin h3 h1 (wpAny_call (sm_get (s := { s' with toks := s'.toks + 1 }) g.kin hr (handed_on rfl ?_))))
  exact i2x3 P σ (Le.refl _) (g.toks _) h

/-! unpacking -/
theorem ext_ok {τ : Vw} {s : Shared} {h' : Heap} (g : Gd c P σ τ s) (e : Heap.ExtBut s.heap.objs.size s.heap h') {k : Nat} : Gd c P σ τ { s with heap := h', toks := k } := by
  have kp : ∀ b o, s.heap.get? b = some o → h'.get? b = some o := fun b o q => e b o (Nat.ne_of_lt (Heap.lt_size q)) q
  exact ⟨⟨g.ok.base, fun b o q => kp _ _ (g.ok.per b o q), fun b o q => kp _ _ (g.ok.frm b o q), g.ok.dis, fun x hx => let ⟨⟨o, ho, hφ⟩, r⟩ := g.ok.mu x hx; ⟨⟨o, kp _ _ ho, hφ⟩, r⟩, g.ok.nd⟩, g.gens, g.os⟩
theorem T3.unp {elts : List Expr} {k : Nat} {tp : Pos} {Q : Unit → Vw → St → Prop} (hA : A.handled = none) (ht : TuP P a xs) (hn : (assignEach elts env).length = xs.length) (hstar : (assignEach elts env).findIdx? (·.1) = none)
    (h : T3 c A (assignInOrder ((assignEach elts env).map (·.2)) xs) P σ Q E) : T3 c A (assign (.Tuple elts k tp) env (.ref a)) P σ Q E := fun τ s g =>
  wpAny_assign_Tuple hA (ht.isTuple g) (by simpa using hn) hstar fun h' he => h τ _ (ext_ok (k := s.toks) g he)
theorem T3.ao1 {t : Value → Sem Unit} {ts : List (Value → Sem Unit)} {Q : Unit → Vw → St → Prop} (h : T3 c A (t v) P σ (kAo c A E ts xs Q) E) : T3 c A (assignInOrder (t :: ts) (v :: xs)) P σ Q E := by
  show T3 c A (PySem.holding xs (t v) >>= fun _ => assignInOrder ts xs) P σ Q E
  exact T3.bind (T3.holding h)
theorem T3.ao0 {Q : Unit → Vw → St → Prop} (h : Q () P σ) : T3 c A (assignInOrder [] []) P σ Q E := T3.pure h
/-- a, b = x, y -/
theorem T3.sSwap {elts : List Expr} {k : Nat} {tp : Pos} {value : Expr} {names : List Str} {Q : Flow → Vw → St → Prop} (hA : A.handled = none)
    (h : T3 c A (eval value env) P σ (fun v P1 σ1 => ∃ a xs, v = .ref a ∧ TuP P1 a xs ∧ xs.length = names.length ∧ T3 c A (assignInOrder (names.reverse.map fun n => bindName env n) xs.reverse) P1 σ1 (fun _ => Q .next) E) E)
    (hs : swapsWithSole [.Tuple elts k tp] value pos.line env = Pure.pure false) (hw : swappedStores [.Tuple elts k tp] value env = Pure.pure (some names)) : T3 c A (exec (.Assign [.Tuple elts k tp] value pos) env) P σ Q E := by
  rw [exec_Assign, hs]
  refine T3.bind (T3.standAt (T3.bind (T3.pure ?_)))
  rw [if_neg (by decide)]
  refine T3.bind (h.conseq fun v P1 σ1 _ h => ?_)
  obtain ⟨a, xs, rfl, ht, hn, h⟩ := h
  rw [hw]
  refine T3.bind (T3.pure ?_)
  show T3 c A (do PySem.rule "assign.swapped-stores"; let items ← unpackItems (.ref a) names.length none; assignInOrder (names.reverse.map fun n => bindName env n) items.reverse; Pure.pure Flow.next) P1 σ1 _ E
  refine T3.bind (T3.rule (T3.bind (Q := _) ?_))
  intro τ s g
  rw [show names.length = xs.toArray.size by simpa using hn.symm]
  refine unpackItems_tuple hA (ht.isTuple g) fun h' he => ⟨P1, σ1, Le.refl _, ext_ok (k := s.toks) g he, ?_⟩
  refine T3.bind (T3.conseq (Q := fun _ => Q .next) ?_ fun _ _ _ _ q => T3.pure q)
  simpa using h
theorem T3.bnd {x : Str} {v : Value} {Q : Unit → Vw → St → Prop} (h : T3 c A (storeName env x v) P σ Q E) : T3 c A (bindName env x v) P σ Q E := by
  unfold bindName
  exact T3.bind (T3.holding (T3.point (T3.bind (h.conseq fun _ _ _ _ h => T3.point h))))

/-! dicts -/
noncomputable def IsD (c : Cx) (kvs : Fs) (o : Obj) : Prop := o.IsDictOf (strKind c.prog c.w) kvs
theorem mods {τ : Vw} {s : Shared} {φ : Obj → Prop} (g : Gd c P σ τ s) (hm : (a, φ) ∈ σ) (hd : a ≠ sysModules) : (a == sysModules) = false := by simpa using hd
theorem dAt {τ : Vw} {s : Shared} (g : Gd c P σ τ s) (hm : (a, IsD c fs) ∈ σ) : s.heap.DictOf (strKind c.prog c.w) a fs := by
  obtain ⟨⟨o, ho, hφ⟩, _⟩ := g.ok.mu _ hm
  exact Heap.dictOf_iff.mpr ⟨o, ho, hφ⟩
theorem HasT.d (hm : (a, IsD c fs) ∈ σ) : HasT c (.ref a) "dict" P σ := HasT.mu hm fun _ ⟨_, _, h, _⟩ => h.1
theorem lk_list : typeLookup (.type "list") "__getitem__" = Pure.pure (some (.builtin "list.__getitem__")) := slot_list_getitem.lookup
theorem lk_tuple : typeLookup (.type "tuple") "__getitem__" = Pure.pure (some (.builtin "tuple.__getitem__")) := F.slot_tuple_getitem.lookup
theorem lk_dict : typeLookup (.type "dict") "__getitem__" = Pure.pure (some (.builtin "dict.__getitem__")) := slot_dict_getitem.lookup
theorem T3.dItem (hm : (a, IsD c fs) ∈ σ) (hv : valueAt fs n = some v) (h : Q v P σ) : T3 c A (getItem (.ref a) (.str n t)) P σ Q E := fun τ s g =>
  wpAny_getItem_of (strKind_is _ _ n t) (dAt g hm).mapOf hv ⟨P, σ, Le.refl _, g.toks _, h⟩
theorem T3.dSet {Q : Unit → Vw → St → Prop} {pre : St} (hz : fs.length ≤ 1000) (h : Q () P (pre ++ (a, IsD c (stored fs n v)) :: σ)) : T3 c A (setItem (.ref a) (.str n t) v) P (pre ++ (a, IsD c fs) :: σ) Q E := fun τ s g =>
  wpAny_setItem_pairs (hsz := by rw [sizeLine_eq]; omega) (strKind_is _ _ n t) (dAt g (List.mem_append_right _ (.head _))) fun h' hm' hs => by
    refine e1x2 (Heap.dictOf_iff.mp hm') ?_; rintro o ho hd
    exact i2x3 P _ (Le.refl _) ⟨g.ok.updAt (fun b nb o e => (hs.2 b nb).trans e) ⟨o, ho, hd⟩, g.gens, g.os⟩ h
theorem T3.dNotIn (hm : (a, IsD c fs) ∈ σ) (hd : a ≠ sysModules) (h : Q (.bool (!(valueAt fs n).isSome)) P σ) : T3 c A (compareOp .NotIn (.str n t) (.ref a)) P σ Q E := fun τ s g =>
  wpAny_notIn_of (strKind_is _ _ n t) (by simpa using hd) (dAt g hm).mapOf ⟨P, σ, Le.refl _, g.toks _, h⟩
theorem fresh_mod {τ : Vw} {s : Shared} (g : Gd c P σ τ s) : s.heap.objs.size ≠ sysModules := Nat.ne_of_gt (modules_low (c.lim.keeps g.keep))
theorem T3.dNew {p : Addr × (Obj → Prop)} (h : ∀ d, d ≠ sysModules → P d = none → Q (.ref d) P (p :: (d, IsD c []) :: σ)) : T3 c A (eval (.Dict [] [] pos) env) P (p :: σ) Q E := fun τ s g => by
  refine wpAny_Dict_empty ⟨P, _, Le.refl _, ⟨(g.ok.pushM (φ := IsD c []) rfl ?_).perm (List.Perm.swap ..), g.gens, g.os⟩, h _ (fresh_mod g) g.ok.fresh.1⟩
  refine e1x2 (Heap.dictOf_iff.mp (Heap.DictOf.new (knd := strKind c.prog c.w) s.heap)) ?_; rintro o ho hd
  rw [Heap.get?_push_size _ rfl] at ho
  exact (Option.some.inj ho) ▸ hd
end
end Mine
end
section
open PySem PySem.W PySem.Calls PyProof.Rows PySem.Spec PySem.SeqAt
namespace Mine
/-- the library's rules with frames -/
noncomputable def allBut (h : Heap) (L : Addr) : List (Addr × Obj) := (List.range h.objs.size).filterMap fun a => if a = L then none else (h.get? a).map fun o => (a, o)
theorem allBut_mem {h : Heap} {L a : Addr} {o : Obj} : (a, o) ∈ allBut h L ↔ a ≠ L ∧ h.get? a = some o := by
  unfold allBut
  rw [List.mem_filterMap]
  constructor
  · rintro hq71z; refine e1x2 (hq71z) ?_; clear hq71z; rintro b hb e
    split at e
    · cases e
    · rename_i q
      refine e1x2 (Option.map_eq_some_iff.mp e) ?_; rintro o' ho e
      cases e
      exact ⟨q, ho⟩
  · rintro ⟨h1, h3⟩
    refine i1x2 a (List.mem_range.mpr (Heap.lt_size h3)) ?_
    rw [if_neg h1, h3]; rfl
section
variable {α : Type} {c : Cx} {A : Around} {P : Vw} {σ : St} {E : Value → Vw → St → Prop} {env : Env} {Q : Value → Vw → St → Prop} {pos : Pos} {x C dx a b l L : Addr} {xs ys : List Value} {v : Value} {t u : Tok} {fs fs' : Fs} {m : Lo} {n : Str} {i j : Int}
theorem fr_in {τ : Vw} {s : Shared} (g : Gd c P ((L, NsP m) :: σ) τ s) : ∃ mf, Fr ⟨#[], {}⟩ L s.heap mf ∧ News ⟨#[], {}⟩ L s.heap (allBut s.heap L) ∧
    ∀ h' tk, Fr ⟨#[], {}⟩ L h' mf → News ⟨#[], {}⟩ L h' (allBut s.heap L) → Gd c P ((L, NsP m) :: σ) τ { s with heap := h', toks := tk } := by
  refine e1x2 (g.ns) ?_; rintro mf ns z
  refine i1x3 mf ⟨ns, fun b o e => by simp [Heap.get?] at e, Nat.zero_le _⟩ (fun p hp => ?_) (fun h' tk F' N' => ?_)
  · obtain ⟨a, o⟩ := p
    obtain ⟨h1, h3⟩ := allBut_mem.mp hp
    exact i0x3 h3 h1 rfl
  · have kp : ∀ b o, b ≠ L → s.heap.get? b = some o → h'.get? b = some o := fun b o h1 h3 => (N' (b, o) (allBut_mem.mpr ⟨h1, h3⟩)).1
    refine e0x3 (g.ok.mu _ (.head _)) ?_; rintro _ pL tL
    have pL : P L = none := pL
    have tL : τ L = none := tL
    have nd := List.nodup_cons.mp g.ok.nd
    refine ⟨⟨g.ok.base, fun b o e => kp b o (fun q => ?_) (g.ok.per b o e), fun b o e => kp b o (fun q => ?_) (g.ok.frm b o e), g.ok.dis, fun y hy => ?_, g.ok.nd⟩, g.gens, g.os⟩
    · subst q; rw [pL] at e; cases e
    · subst q; rw [tL] at e; cases e
    · rcases List.mem_cons.mp hy with rfl | hy
      · exact i0x3 (of_ns F'.ns z) pL tL
      · obtain ⟨⟨o, ho, hφ⟩, r⟩ := g.ok.mu y (.tail _ hy)
        exact ⟨⟨o, kp _ _ (fun q => nd.1 (List.mem_map.mpr ⟨y, hy, q⟩)) ho, hφ⟩, r⟩

/-! ints -/
theorem T3.iMul (hm : IntMulOk i j) (h : ∀ k, Q (.int (i * j) k) P σ) : T3 c A (binaryOp .Mult (.int i t) (.int j u)) P σ Q E := fun τ s g => PyProof.Rows.mul_int (en (g.toks _) (h _)) hm
theorem T3.iMod (hj : 0 < j) (h : ∀ k, Q (.int (i % j) k) P σ) : T3 c A (binaryOp .Mod (.int i t) (.int j u)) P σ Q E := fun τ s g => PyProof.Rows.mod_int' (by omega) (by rw [Int.fmod_eq_emod_of_nonneg _ (by omega)]; exact en (g.toks _) (h _))
theorem T3.iDiv (hj : 0 < j) (hp : Builtin.divisionGoesByPylong i j = false) (h : ∀ k, Q (.int (i / j) k) P σ) : T3 c A (binaryOp .FloorDiv (.int i t) (.int j u)) P σ Q E := fun τ s g => PyProof.Rows.floordiv_int (by omega) (by rw [Int.fdiv_eq_ediv_of_nonneg _ (by omega)]; exact en (g.toks _) (h _)) (.inl hp)
theorem T3.iPow {e : Nat} (hsz : (Builtin.Int.intBits i : Int) * e ≤ 2 ^ 27) (h : ∀ k, Q (.int (i ^ e) k) P σ) : T3 c A (binaryOp .Pow (.int i t) (.int (e : Int) u)) P σ Q E := fun τ s g => PyProof.Rows.pow_int (by omega) hsz (by rw [Int.toNat_natCast]; exact en (g.toks _) (h _))
theorem T3.iAbs (h : ∀ k, Q (.int (if i < 0 then -i else i) k) P σ) : T3 c A (PySem.call (.builtin "abs") [.int i t]) P σ Q E := fun τ s g => call_abs_int fun u tk => en (g.toks _) (h _)
theorem T3.iInt (h : Q (.int i t) P σ) : T3 c A (PySem.call (.type "int") [.int i t]) P σ Q E := fun τ s g => call_int_int (en g h)
theorem T3.iStr (hi : i.natAbs.log2 < 1920) (h : ∀ k, Q (.str (toString i) k) P σ) : T3 c A (PySem.call (.type "str") [.int i t]) P σ Q E := fun τ s g => PySem.P.str_of_int hi (en (g.toks _) (h _))
theorem T3.cOrd {ch : Nat} (h : ∀ k, Q (.int ch k) P σ) : T3 c A (PySem.call (.builtin "ord") [.str (S [ch]) t]) P σ Q E := fun τ s g => PySem.P.ord_of_char (en (g.toks _) (h _))
theorem T3.cChr {ch : Nat} (hc : ch ≤ 1114111) (h : ∀ k, Q (.str (S [ch]) k) P σ) : T3 c A (PySem.call (.builtin "chr") [.int ch t]) P σ Q E := fun τ s g => chr_of_range (by omega) (by omega) (by rw [Int.toNat_natCast]; exact en (g.toks _) (h _))
theorem T3.iMax (hA : A.handled = none) (h : ∀ k, Q (.int (if j > i then j else i) k) P ((L, NsP m) :: σ)) : T3 c A (PySem.call (.builtin "max") [.int i t, .int j u]) P ((L, NsP m) :: σ) Q E := fun τ s g => by
  refine e1x3 (fr_in g) ?_; rintro mf F N back
  exact max_two_N hA F N fun h' tk F' N' => en (back _ _ F' N') (h _)
theorem T3.iMin (hA : A.handled = none) (h : ∀ k, Q (.int (if j < i then j else i) k) P ((L, NsP m) :: σ)) : T3 c A (PySem.call (.builtin "min") [.int i t, .int j u]) P ((L, NsP m) :: σ) Q E := fun τ s g => by
  refine e1x3 (fr_in g) ?_; rintro mf F N back
  exact min_two_N hA F N fun h' tk F' N' => en (back _ _ F' N') (h _)
theorem T3.lMax {ns : List Int} (hA : A.handled = none) (hl : LiP P l xs) (hi : IntsAre xs ns) (hne : 0 < ns.length) (h : ∀ M k, M ∈ ns → (∀ a, a ∈ ns → a ≤ M) → Q (.int M k) P ((L, NsP m) :: σ)) : T3 c A (PySem.call (.builtin "max") [.ref l]) P ((L, NsP m) :: σ) Q E := fun τ s g => by
  refine e1x3 (fr_in g) ?_; rintro mf F N back
  exact max_list_N hA F N (hl.isList g) hi hne fun h' M t tk F' N' h1 h2 => en (back _ _ F' N') (h _ _ h1 h2)

/-! is -/
theorem T3.isNN (h : Q (.bool true) P σ) : T3 c A (compareOp .Is .none .none) P σ Q E := fun τ s g => wpAny_is_self rfl (en g h)
theorem T3.isRN (h : Q (.bool false) P σ) : T3 c A (compareOp .Is (.ref a) .none) P σ Q E := fun τ s g => wpAny_is_other rfl (by intro q; cases q) (en g h)
theorem T3.isntNN (h : Q (.bool false) P σ) : T3 c A (compareOp .IsNot .none .none) P σ Q E := fun τ s g => wpAny_isNot_self rfl (en g h)
theorem T3.isntRN (h : Q (.bool true) P σ) : T3 c A (compareOp .IsNot (.ref a) .none) P σ Q E := fun τ s g => wpAny_isNot_other rfl (by intro q; cases q) (en g h)

/-! texts -/
theorem T3.mStr {name : Str} {id : String} {x : Str} {pl : Sem Bool} {Q : Value × List Value → Vw → St → Prop} (slot : Slot "str" name id) (hty : typeOf (.builtin id) = Pure.pure (.type "method_descriptor"))
    (h : Q (.builtin id, [.str x t]) P σ) : T3 c A (getMethod (.str x t) name pl) P σ Q E := fun τ s g =>
  getMethod_builtin (typeIs_str _ _ _) PySem.F.plainAttrs_str slot hty (fun b e => by cases e) ⟨P, σ, Le.refl _, g, h⟩
theorem T3.sJoin {sep : Str} {ps : List (Str × Tok)} (hl : LiP P l (strValues ps)) (hok : JoinOk sep (ps.map (·.1)) = true) (h : ∀ k, Q (.str (Txt.join sep (ps.map (·.1))) k) P σ) : T3 c A (PySem.call (.builtin "str.join") [.str sep t, .ref l]) P σ Q E := fun τ s g =>
  SC.join (hl.isList g) rfl hok fun t' k => en (g.toks _) (h _)

/-! lists, tuples -/
noncomputable def SlP (P : Vw) (a : Addr) (l u st : Value) : Prop := ∃ o, P a = some o ∧ o.cls = .type "slice" ∧ o.data = .fields #[l, u, st]
theorem SlP.le {P P' : Vw} {a : Addr} {l u st : Value} (q : Le P P') (h : SlP P a l u st) : SlP P' a l u st := let ⟨o, e, r⟩ := h; ⟨o, q _ _ e, r⟩
theorem T3.eSlice {lo up st : Option Expr} (h : T3 c A (evPart lo env) P σ (fun vl P1 σ1 => T3 c A (evPart up env) P1 σ1 (fun vu P2 σ2 => T3 c A (evPart st env) P2 σ2 (fun vs P3 σ3 => ∀ a P4, Le P3 P4 → SlP P4 a vl vu vs → Q (.ref a) P4 σ3) E) E) E) : T3 c A (eval (.Slice lo up st pos) env) P σ Q E := by
  rw [arm_eval_Slice]
  refine T3.bind (T3.conseq h fun vl _ _ _ h => T3.bind (T3.holding (T3.conseq h fun vu P3 σ3 _ h => T3.bind (T3.holding (h.conseq fun vs P4 σ4 _ h => ?_)))))
  show T3 c A (newFields "slice" [vl, vu, vs]) P4 σ4 _ E
  exact T3.bind (T3.allocP fun a hp => T3.pure (h a _ (le_put hp) ⟨_, put_self, rfl, rfl⟩))
theorem T3.lSlice {vl vu vs : Value} {lo hi st : Option Int} {sl : Addr} {p : Addr × (Obj → Prop)} (hl : LiP P l xs) (hs : SlP P sl vl vu vs) (pl : IsPart vl lo) (pu : IsPart vu hi) (ps : IsPart vs st) (h0 : st ≠ some 0) (hz : xs.length ≤ sizeLine)
    (he : slicePick xs.toArray lo hi st = ys.toArray) (h : ∀ a, P a = none → Q (.ref a) P (p :: (a, IsLi ys) :: σ)) : T3 c A (getItem (.ref l) (.ref sl)) P (p :: σ) Q E := fun τ s g => by
  refine e1x3 (hs) ?_; rintro o ho hc hd
  refine wpAny_getItem_list_slice (hl.isList g) ⟨o, g.ok.per _ _ ho, hc, hd⟩ pl pu ps h0 ?_ (by simpa using hz)
  rw [he]
  exact i2x3 P _ (Le.refl _) ⟨(g.ok.pushM (φ := IsLi ys) rfl ⟨_, rfl⟩).perm (List.Perm.swap ..), g.gens, g.os⟩ (h _ g.ok.fresh.1)
theorem pick_from (xs : List Value) (a : Nat) : slicePick xs.toArray (some (a : Int)) none none = (xs.drop a).toArray := by rw [slicePick_from']
theorem pick_upto (xs : List Value) (b : Nat) : slicePick xs.toArray none (some (b : Int)) none = (xs.take b).toArray := by rw [slicePick_upto']
theorem pick_run_back (xs : List Value) : ∀ k, k ≤ xs.length → ((List.range k).map fun j => k - 1 - j).filterMap (xs[·]?) = (xs.take k).reverse
  | 0, _ => by simp
  | k + 1, hk => by
    have ih := pick_run_back xs k (by omega)
    rw [List.range_succ_eq_map, List.map_cons, List.map_map, List.take_add_one, List.getElem?_eq_getElem (by omega), List.reverse_append]
    have e : ((fun j => k + 1 - 1 - j) ∘ Nat.succ) = fun j => k - 1 - j := by funext j; show k - (j + 1) = _; rw [Nat.sub_sub, Nat.add_comm 1 j]
    rw [e, List.filterMap_cons]
    have z : k + 1 - 1 - 0 = k := rfl
    rw [z, List.getElem?_eq_getElem (by omega), ih]
    rfl
theorem pick_back (xs : List Value) : slicePick xs.toArray none none (some (-1)) = xs.reverse.toArray := by
  have e : sliceBounds none none (some (-1)) xs.toArray.size = ((xs.length : Int) - 1, -1, -1) := by simp [sliceBounds]
  unfold slicePick
  rw [e]
  congr 1
  have r : sliceRange ((xs.length : Int) - 1) (-1) (-1) = (List.range xs.length).map fun k => xs.length - 1 - k := by
    unfold sliceRange
    simp only [show ¬ ((-1 : Int) > 0) by decide, if_false]
    by_cases h : (xs.length : Int) - 1 > -1
    · simp only [h, if_true]
      have h1 : (((xs.length : Int) - 1 - -1 - -1 - 1) / -(-1)) = xs.length := by
        rw [show (-(-1) : Int) = 1 from rfl, Int.ediv_one]; omega
      rw [h1, Int.toNat_natCast]
      apply List.map_congr_left
      intro k hk
      obtain ⟨j, hj⟩ := Nat.exists_eq_add_of_lt (List.mem_range.mp hk)
      clear hk h1 h e
      rw [hj, show ((k + j + 1 : Nat) : Int) - 1 + -1 * (k : Int) = (j : Int) by clear hj; omega, Int.toNat_natCast, Nat.add_sub_cancel]
      exact (Nat.add_sub_cancel_left ..).symm
    · have : xs.length = 0 := by omega
      simp [this]
  rw [show ((xs.length : Int) - 1, (-1 : Int), (-1 : Int)).1 = (xs.length : Int) - 1 from rfl, show ((xs.length : Int) - 1, (-1 : Int), (-1 : Int)).2.1 = -1 from rfl, show ((xs.length : Int) - 1, (-1 : Int), (-1 : Int)).2.2 = -1 from rfl, r]
  have := pick_run_back xs xs.length (Nat.le_refl _)
  rw [List.take_length] at this
  simpa using this
theorem LiP.at' {τ : Vw} {s : Shared} (g : Gd c P σ τ s) (hm : (a, IsLi xs) ∈ σ) : ∃ n, IsL s.heap a xs.toArray n := liAt g hm
theorem T3.lAdd {p : Addr × (Obj → Prop)} (hm : (a, IsLi xs) ∈ p :: σ) (hm2 : (b, IsLi ys) ∈ p :: σ) (hz : xs.length + ys.length ≤ sizeLine) (h : ∀ d, P d = none → Q (.ref d) P (p :: (d, IsLi (xs ++ ys)) :: σ)) : T3 c A (binaryOp .Add (.ref a) (.ref b)) P (p :: σ) Q E := fun τ s g => by
  obtain ⟨n1, h1⟩ := liAt g hm
  obtain ⟨n2, h2⟩ := liAt g hm2
  refine PySem.P.add_list h1 h2 ?_ (by simpa using hz)
  exact i2x3 P _ (Le.refl _) ⟨(g.ok.pushM (φ := IsLi (xs ++ ys)) rfl ⟨0, by simp⟩).perm (List.Perm.swap ..), g.gens, g.os⟩ (h _ g.ok.fresh.1)
theorem T3.tupOf (hl : LiP P l xs) (hz : xs.length ≤ sizeLine) (h : ∀ a P', Le P P' → TuP P' a xs → Q (.ref a) P' σ) : T3 c A (PySem.call (.type "tuple") [.ref l]) P σ Q E := fun τ s g => by
  refine call_tuple_list (hl.isList g) (fun h' hk => ?_) (by simpa using hz)
  have g' := ext_ok (k := s.toks) g (fun b o _ q => hk b o q)
  exact i2x3 _ _ (le_put g'.ok.fresh.1) ⟨g'.ok.pushP rfl, g.gens, g.os⟩ (h _ _ (le_put g'.ok.fresh.1) .put)

/-! data -/
noncomputable def DaP (P : Vw) (v : Value) (d : PyData) : Prop := ∀ h : Heap, (∀ a o, P a = some o → h.get? a = some o) → ∃ as, Reads h v d as
theorem DaP.le {P P' : Vw} {d : PyData} (l : Le P P') (h : DaP P v d) : DaP P' v d := fun hh k => h hh fun a o e => k a o (l a o e)
theorem DaP.str {x : Str} : DaP P (.str x t) (.str x) := fun _ _ => ⟨_, .str _ _⟩
theorem DaP.int : DaP P (.int i t) (.int i) := fun _ _ => ⟨_, .int _ _⟩
theorem DaP.none : DaP P .none .none := fun _ _ => ⟨_, .none⟩
theorem DaP.bool {b : Bool} : DaP P (.bool b) (.bool b) := fun _ _ => ⟨_, .bool _⟩
inductive DasP (P : Vw) : List Value → List PyData → Prop
  | nil : DasP P [] []
  | cons {v d vs ds} (h : DaP P v d) (r : DasP P vs ds) : DasP P (v :: vs) (d :: ds)
theorem DasP.reads {vs : List Value} {ds : List PyData} (h : DasP P vs ds) {hh : Heap} (k : ∀ a o, P a = some o → hh.get? a = some o) : ∃ as, ReadsAll hh vs ds as := by
  induction h with
  | nil => exact ⟨_, .nil⟩
  | cons h r ih =>
    obtain ⟨_, r1⟩ := h hh k
    obtain ⟨_, r2⟩ := ih
    exact ⟨_, .cons r1 r2⟩
theorem DaP.tuple {ds : List PyData} (ht : TuP P a xs) (h : DasP P xs ds) : DaP P (.ref a) (.tuple ds) := fun hh k => by
  obtain ⟨n, e⟩ := ht
  obtain ⟨as, r⟩ := h.reads k
  exact ⟨_, .tuple (k _ _ e) rfl rfl r⟩
theorem T3.daEq {v w : Value} {d e : PyData} (hv : DaP P v d) (hw : DaP P w e) (sd : shaped d = true) (se : shaped e = true) (hu : A.units + 64 < cLine) (hm : noMix d e = true) (h : Q (.bool (Spec.same d e)) P σ) : T3 c A (compareOp .Eq v w) P σ Q E := fun τ s g => by
  obtain ⟨_, r1⟩ := hv s.heap g.ok.per
  obtain ⟨_, r2⟩ := hw s.heap g.ok.per
  exact eq_dataH_same r1 r2 sd se hu hm (en g h)
theorem T3.daNe {v w : Value} {d e : PyData} (hv : DaP P v d) (hw : DaP P w e) (sd : shaped d = true) (se : shaped e = true) (hu : A.units + 64 < cLine) (hm : noMix d e = true) (h : Q (.bool (!Spec.same d e)) P σ) : T3 c A (compareOp .NotEq v w) P σ Q E := fun τ s g => by
  obtain ⟨_, r1⟩ := hv s.heap g.ok.per
  obtain ⟨_, r2⟩ := hw s.heap g.ok.per
  exact ne_dataH_same r1 r2 sd se hu hm (en g h)
theorem T3.daIn {v w : Value} {d : PyData} {ds : List PyData} (hw : DaP P w (.tuple ds)) (hv : DaP P v d) (hds : PyData.canLayAll0 ds = true) (hd : d.canLay0 = true) (hu : A.units + 1 + min (PyData.depthAll ds) d.depth < cLine) (h : Q (.bool (ds.any fun y => PyData.eqv y d)) P σ) : T3 c A (compareOp .In v w) P σ Q E := fun τ s g => by
  obtain ⟨_, r1⟩ := hw s.heap g.ok.per
  obtain ⟨_, r2⟩ := hv s.heap g.ok.per
  exact in_tuple_reads r1 r2 hds hd hu (en g h)
end
end Mine
end
section
open PySem PySem.W PySem.Calls PyProof.Rows PySem.Spec PySem.SeqAt
namespace Mine
/-! a list of one item, sorted -/
section
variable {prog : Program} {w : World} {A : Around} {E : Value → Shared → Prop} {s : Shared}
theorem sort_one {a : Addr} {v : Value} {n : Nat} {R : Fin → Shared → Prop} (ho : s.heap.get? a = some (seqObj "list" [v].toArray n)) (h : R (.done (.ret .none)) { s with heap := sortedHeap s.heap a [v] #[v] }) :
    wpAny (model prog w) A (Builtin.«list.sort» ⟨[.ref a], []⟩) R E s := by
  have lt : a < s.heap.objs.size := Heap.lt_size ho
  obtain ⟨k, e1⟩ : ∃ k, (s.heap.update a (Obj.mapSeq fun _ => #[])).get? a = some (seqObj "list" #[] k) := ⟨_, get?_update_seq ho (fun _ => #[])⟩
  have e2 : (((s.heap.update a (Obj.mapSeq fun _ => #[])).push (seqObj "tuple" [v].toArray 0)).push (seqObj "list" #[] 0)).get? a = some (seqObj "list" #[] k) := by
    rw [Heap.get?_push_ne _ _ _ (by rw [size_push', Heap.size_update]; exact Nat.ne_of_lt (Nat.lt_succ_of_lt lt)), Heap.get?_push_ne _ _ _ (by rw [Heap.size_update]; exact Nat.ne_of_lt lt)]
    exact e1
  rw [list_sort_plain]
  refine wpAny_bind (listItems_at ho rfl (wpAny_bind (listUpdate_at ho rfl (wpAny_bind (seqEpoch_at e1 rfl (wpAny_bind (wpAny_newTuple (wpAny_bind (wpAny_newList (wpAny_holding ?_))))))) (by show 1 ≤ sizeLine; rw [sizeLine_eq]; decide))))
  show wpAny (model prog w) A _ R E { s with heap := ((s.heap.update a (Obj.mapSeq fun _ => #[])).push (seqObj "tuple" [v].toArray 0)).push (seqObj "list" #[] 0) }
  dsimp only
  have h1 : [v].toArray.size < 2 := Nat.lt_succ_self 1
  have h3 : Array.map (fun x => x.snd) (arrOf (SortSt.mk' general' (#[v].zip #[v]) #[] 7 none)) = #[v] := by show Array.map (fun x => x.snd) (#[v].zip #[v]) = _; simp
  rw [if_pos h1, if_pos h1]
  refine wpAny_bind (wpAny_pure ?_)
  rw [StateT.run_pure]
  refine wpAny_bind (wpAny_pure ?_)
  dsimp only
  refine wpAny_bind (seqEpoch_at e2 rfl (wpAny_bind (listUpdate_at e2 rfl ?_ (hsz2 := by rw [h3, sizeLine_eq]; exact Nat.le_of_ble_eq_true rfl))))
  simp only [bne_self_eq_false, Bool.false_eq_true, if_false]
  rw [h3]
  exact wpAny_pure h
theorem sorted_one {l : Addr} {v : Value} {Q : Value → Shared → Prop} (hl : s.heap.IsList l [v].toArray) (h : Q (.ref (s.heap.objs.size + 1)) { s with heap := sortedAll s.heap [v] #[v] }) :
    wpAny (model prog w) A (call (.builtin "sorted") [.ref l]) Q E s := by
  refine Calls.call_function_entry kind_sorted plain_sorted entry_sorted (args_sorted1 _) ?_
  unfold Builtin.«sorted»
  refine wpAny_bind (m := checkCount "sorted" 1 1 _) (wpAny_pure (wpAny_bind (collect_list hl (wpAny_bind (wpAny_newList ?_)))))
  have hsz : ((s.heap.push (seqObj "list" #[] 0)).update s.heap.objs.size (Obj.mapSeq (· ++ [v].toArray))).objs.size = s.heap.objs.size + 1 := by rw [Heap.size_update, size_push']
  have e : (((s.heap.push (seqObj "list" #[] 0)).update s.heap.objs.size (Obj.mapSeq (· ++ [v].toArray))).push (seqObj "list" [v].toArray 0)).get? (s.heap.objs.size + 1) = some (seqObj "list" [v].toArray 0) := by
    rw [← hsz]; exact Heap.get?_push_size _ rfl
  show wpAny _ _ _ _ _ { s with heap := ((s.heap.push (seqObj "list" #[] 0)).update s.heap.objs.size (Obj.mapSeq (· ++ [v].toArray))).push (seqObj "list" [v].toArray 0) }
  rw [hsz]
  refine wpAny_bind (wpAny_holding (wpAny_call_entry slot_list_sort ⟨_, e, rfl⟩ entry_list_sort (sort_one e ⟨_, rfl, ?_⟩) (args_list_sort _)))
  exact wpAny_pure ⟨_, rfl, h⟩
end
section
variable {α : Type} {c : Cx} {A : Around} {P : Vw} {σ : St} {E : Value → Vw → St → Prop} {env : Env} {Q : Value → Vw → St → Prop} {a b l : Addr} {xs : List Value} {v : Value} {t : Tok} {p : Addr × (Obj → Prop)}
theorem T3.lSort1 (hl : LiP P l [v]) (h : ∀ a P', Le P P' → LiP P' a [v] → Q (.ref a) P' σ) : T3 c A (PySem.call (.builtin "sorted") [.ref l]) P σ Q E := fun τ s g => by
  refine sorted_one (hl.isList g) ?_
  obtain ⟨e, he⟩ := sortedAll_at s.heap [v] #[v]
  have kp : ∀ b o, s.heap.get? b = some o → (sortedAll s.heap [v] #[v]).get? b = some o := fun b o q => sortedAll_old q
  have fr : ∀ k, s.heap.objs.size ≤ k → P k = none ∧ τ k = none ∧ ∀ x ∈ σ, x.1 ≠ k := fun k hk => by
    refine i0x3 ?_ ?_ (fun x hx q => ?_)
    · cases q : P k with
      | none => rfl
      | some o => exact absurd (Nat.lt_of_lt_of_le (Heap.lt_size (g.ok.per _ _ q)) hk) (Nat.lt_irrefl _)
    · cases q : τ k with
      | none => rfl
      | some o => exact absurd (Nat.lt_of_lt_of_le (Heap.lt_size (g.ok.frm _ _ q)) hk) (Nat.lt_irrefl _)
    · obtain ⟨⟨o, ho, _⟩, _⟩ := g.ok.mu x hx
      rw [q] at ho
      exact absurd (Nat.lt_of_lt_of_le (Heap.lt_size ho) hk) (Nat.lt_irrefl _)
  refine e0x3 (fr (s.heap.objs.size + 1) (Nat.le_succ _)) ?_; rintro f1 f2 f3
  refine i2x3 (put P (s.heap.objs.size + 1) (seqObj "list" [v].toArray e)) σ (le_put f1) ⟨⟨fun b o q => le_put f1 _ _ (g.ok.base b o q), fun b o q => ?_, fun b o q => kp _ _ (g.ok.frm b o q), fun b o q => ?_, fun x hx => ?_, g.ok.nd⟩, g.gens, g.os⟩ (h _ _ (le_put f1) ⟨_, put_self, rfl, e, rfl⟩)
  · unfold put at q
    split at q
    · rename_i z; subst z; cases q; exact he
    · exact kp _ _ (g.ok.per b o q)
  · unfold put at q
    split at q
    · rename_i z; subst z; exact f2
    · exact g.ok.dis b o q
  · refine e0x3 (g.ok.mu x hx) ?_; rintro hq76z r1 r2; refine e1x2 (hq76z) ?_; clear hq76z; rintro o ho hφ
    refine i0x3 ⟨o, kp _ _ ho, hφ⟩ ?_ r2
    exact (if_neg (f3 x hx)).trans r1
theorem T3.lTruth {Q : Bool → Vw → St → Prop} (hm : (a, IsLi xs) ∈ σ) (hz : xs.length ≤ sizeLine) (h : Q (!xs.isEmpty) P σ) : T3 c A (truthy (.ref a)) P σ Q E := fun τ s g => by
  obtain ⟨n, ho⟩ := liAt g hm
  have hz' := sizeLine_eq ▸ hz
  refine wpAny_truthy_list ⟨_, ho, rfl, n, rfl⟩ (by simp; omega) ⟨P, σ, Le.refl _, g.toks _, ?_⟩
  have e : xs.toArray.isEmpty = xs.isEmpty := by cases xs <;> rfl
  rw [e]; exact h
end
end Mine
end
section
open PySem PySem.W PySem.Calls PyProof.Rows PySem.Spec PySem.SeqAt
namespace Mine
/-! a def with one cell -/
noncomputable def CeP (v : Option Value) (o : Obj) : Prop := o.data = .cell v
noncomputable abbrev mkEC (sc : Scope) (q : Str) (L f : Addr) (cd : Value) (y : Str) (ca : Addr) : Env :=
  { scope := sc, locals := L, globals := mainGlobals, cells := [(y, ca)], qual := q ++ ".<locals>.", func := some f, code := cd, frame := some L, builtins := builtinsNs }
theorem bindL_all {k : Str → Option NameKind} : ∀ (binds : List (Str × Value)) (m : Str → Option Value), (∀ x ∈ binds, k x.1 = some .local) → ∀ x, bindL k binds m x = ((binds.reverse.lookup x).or (m x))
  | [], m, _, x => by simp [bindL]
  | (n, v) :: r, m, h, x => by
    unfold bindL
    rw [if_pos (h (n, v) (.head _)), bindL_all r _ (fun y hy => h y (.tail _ hy)) x, List.reverse_cons, List.lookup_append, Option.or_assoc]
    congr 1
    rw [List.lookup_cons]
    by_cases e : x = n
    · subst e; simp
    · have : (x == n) = false := by simpa using e
      rw [this, if_neg e]; simp
section
variable {α : Type} {c : Cx} {A : Around} {P : Vw} {σ : St} {E : Value → Vw → St → Prop} {env : Env} {Q : Value → Vw → St → Prop} {y : Str} {ca : Addr} {v : Value} {pos : Pos} {p : Addr × (Obj → Prop)}
theorem C3.defC {f : Addr} {qual : Str} {params : Arguments} {body : List Stmt} {scope : Scope} {dV : Value} {args : Args} {R : Result → Vw → St → Prop} (F : FnAt c f qual params body scope dV) (binds : List (Str × Value)) (y : Str) (hr : A.depth < recursionLimit)
    (hbind : ∀ name doc pm cdv ct an τ s, Gd c P σ τ s → BindsTo s (fnOf name qual params body scope dV .none doc pm an cdv ct) args binds)
    (hloc : (binds.all fun x => decide (scope.names.lookup x.1 = some .local)) = true) (hcell : ∀ n, cellsFrom n scope.names [] = [(y, n)]) (hflag : scope.isCoroutine = false ∧ scope.isGenerator = false ∧ scope.kind = .function)
    (h : ∀ L ca cd, T3 c (A.deeper (mkEC scope qual L f cd y ca)) (execs body (mkEC scope qual L f cd y ca)) P ((L, NsP binds.reverse) :: (ca, CeP none) :: σ) (Bk L fun v P' σ' => ∃ φ σ'', σ' = (ca, φ) :: σ'' ∧ R (.ok (.ret v)) P' σ'') NoE) : C3 c A (.call (.ref f) args) P σ R := fun τ s g => by
  refine e9x2 (F.ex) ?_; rintro name oc od osl doc pm cdv ct an hk hcd
  refine e0x3 (hflag) ?_; rintro h1 h2 h3
  have hl : ∀ x ∈ binds, scope.names.lookup x.1 = some .local := fun x hx => of_decide_eq_true (List.all_eq_true.mp hloc x hx)
  refine codeAny_call_function (fd := fnOf name qual params body scope dV .none doc pm an cdv ct) hr (g.kin _ _ hk) rfl h1 h2 rfl (codeRec_of g.kin hcd) (hbind _ _ _ _ _ _ τ s g _ _ _ _ ?_)
  refine wpAny_newFunctionEnv_cells h3 (fun x hx => .inl (hl x hx)) fun env he s' x => ?_
  have he' : env = mkEC scope qual s.heap.objs.size f cdv y (s.heap.objs.size + 1) := by
    rw [he]
    show newEnv scope s.heap.objs.size mainGlobals (cellsFrom (s.heap.objs.size + 1) scope.names []) _ _ _ none _ = _
    rw [hcell]; rfl
  clear he
  subst he'
  refine ⟨(c.lim.keeps g.keep).keeps x.toInCall.keep, codeAny_func ?_⟩
  refine e2x1 (x.toInCall.same) ?_; rintro h₀ tk e
  have hns := x.toInCall.ns
  have hkp := x.toInCall.keep
  have hce := x.cell y (s.heap.objs.size + 1) (by show List.lookup y [(y, _)] = _; simp)
  subst e
  have hne : s.heap.objs.size ≠ s.heap.objs.size + 1 := Nat.ne_of_lt (Nat.lt_succ_self _)
  have big : ∀ k, s.heap.objs.size ≤ k → P k = none ∧ τ k = none ∧ ∀ x ∈ σ, x.1 ≠ k := fun k hk => by
    refine i0x3 ?_ ?_ (fun x hx q => ?_)
    · cases q : P k with
      | none => rfl
      | some o => exact absurd (Nat.lt_of_lt_of_le (Heap.lt_size (g.ok.per _ _ q)) hk) (Nat.lt_irrefl _)
    · cases q : τ k with
      | none => rfl
      | some o => exact absurd (Nat.lt_of_lt_of_le (Heap.lt_size (g.ok.frm _ _ q)) hk) (Nat.lt_irrefl _)
    · obtain ⟨⟨o, ho, _⟩, _⟩ := g.ok.mu x hx
      rw [q] at ho
      exact absurd (Nat.lt_of_lt_of_le (Heap.lt_size ho) hk) (Nat.lt_irrefl _)
  have b0 := big s.heap.objs.size (Nat.le_refl _)
  have b1 := big (s.heap.objs.size + 1) (Nat.le_succ _)
  have ok : Ok c P ((s.heap.objs.size, NsP binds.reverse) :: (s.heap.objs.size + 1, CeP none) :: σ) τ h₀ := by
    refine ⟨g.ok.base, fun a o e => hkp _ _ (g.ok.per a o e), fun a o e => hkp _ _ (g.ok.frm a o e), g.ok.dis, fun z hz => ?_, ?_⟩
    · rcases List.mem_cons.mp hz with rfl | hz
      · refine i0x3 (of_ns hns fun k u e => ?_) b0.1 b0.2.1
        rw [bindL_all binds _ hl k, e]; rfl
      · rcases List.mem_cons.mp hz with rfl | hz
        · refine e1x2 (hce) ?_; rintro o ho hd
          refine i0x3 ⟨o, ho, ?_⟩ b1.1 b1.2.1
          have bc : ∀ (binds : List (Str × Value)) (cm : Str → Option Value), (∀ x ∈ binds, scope.names.lookup x.1 = some .local) → bindC (fun n => scope.names.lookup n) binds cm = cm := by
            intro binds
            induction binds with
            | nil => intro cm _; rfl
            | cons a r ih => intro cm ha; unfold bindC; rw [if_pos (ha a (.head _))]; exact ih cm fun x hx => ha x (.tail _ hx)
          have : bindC (Env.kindOf (mkEC scope qual s.heap.objs.size f cdv y (s.heap.objs.size + 1))) binds (fun _ => none) = fun _ => none := bc binds _ hl
          rw [this] at hd
          exact hd
        · obtain ⟨⟨o, ho, hφ⟩, r⟩ := g.ok.mu z hz
          exact ⟨⟨o, hkp _ _ ho, hφ⟩, r⟩
    · rw [List.map_cons, List.map_cons]
      refine List.nodup_cons.mpr ⟨fun hm => ?_, List.nodup_cons.mpr ⟨fun hm => ?_, g.ok.nd⟩⟩
      · rcases List.mem_cons.mp hm with e | hm
        · exact hne e
        · refine e1x2 (List.mem_map.mp hm) ?_; rintro z hz e
          exact b0.2.2 z hz e
      · refine e1x2 (List.mem_map.mp hm) ?_; rintro z hz e
        exact b1.2.2 z hz e
  refine wpAny_mono (h s.heap.objs.size (s.heap.objs.size + 1) cdv τ { s with heap := h₀, toks := tk } ⟨ok, g.gens, g.os⟩) (fun fl s' ⟨P', σ', l, g', q⟩ => ?_) fun _ _ ⟨_, _, _, _, z⟩ => z.elim
  obtain ⟨φ, σ'', rfl, φ2, σ3, rfl, q⟩ := q
  exact i2x3 P' σ3 l ⟨g'.ok.drop.drop, g'.gens, g'.os⟩ q
theorem T3.ldC (hk : env.scope.kind = .function) (hl : env.kindOf y = some .cell) (hc : env.cells.lookup y = some ca) (hm : (ca, CeP (some v)) ∈ σ) (hd : (y == ("__debug__" : Str)) = false) (h : Q v P σ) : T3 c A (eval (.Name y pos) env) P σ Q E :=
  T3.nm hd fun τ s g => by
    obtain ⟨⟨o, ho, hφ⟩, _⟩ := g.ok.mu _ hm
    exact wpAny_loadName_cell hk hl hc ⟨o, ho, hφ⟩ ⟨P, σ, Le.refl _, g, h⟩
theorem T3.stC {v₀ : Option Value} {Q : Unit → Vw → St → Prop} (hk : env.scope.kind = .function) (hl : env.kindOf y = some .cell) (hc : env.cells.lookup y = some ca) (h : Q () P (p :: (ca, CeP (some v)) :: σ)) : T3 c A (storeName env y v) P (p :: (ca, CeP v₀) :: σ) Q E := fun τ s g => by
  obtain ⟨⟨o, ho, hφ⟩, _⟩ := g.ok.mu (ca, CeP v₀) (.tail _ (.head _))
  refine wpAny_storeName_cell hk hl hc ⟨o, ho, hφ⟩ fun h' ⟨o', ho', hd'⟩ hs => ⟨P, _, Le.refl _, ⟨?_, g.gens, g.os⟩, h⟩
  exact Ok.updAt (pre := [p]) g.ok (fun b nb o e => (hs.2 b nb).trans e) ⟨o', ho', hd'⟩
end
end Mine
end
section
open PySem PySem.W PySem.Calls PyProof.Rows PySem.Spec PySem.SeqAt
namespace Mine
/-! the kind of an object of the text's own class -/
structure KG (c : Cx) : Prop where
  klass : ∀ C, clsTab.contains C = true → findIn c.K (.ref C) "__class__" = some (some (.builtin "object.__class__")) ∧ mroIn c.K C (.type "object") = some true
  gs : specialIn c.K (.builtin "object.__class__") "__get__" = some (some (.builtin "getset_descriptor.__get__"))
  tk : takesIn c.K (.builtin "object.__class__") = some true
  intC : typeIn c.K (.type "int") = none
section
variable {prog : Program} {w : World} {A : Around} {E : Value → Shared → Prop} {s : Shared} {K : Frag} {x C D : Addr} {ox : Obj} {od : Obj}
theorem attr_class {Q : Option Value → Shared → Prop} (X : K.In s.heap) (I : InstAt s.heap x ox C (some od)) (hga : findIn K (.ref C) "__getattribute__" = some (some (.builtin "object.__getattribute__"))) (hk : findIn K (.ref C) "__getattr__" = some none) (hh : hasDictIn K C = true)
    (ha : findIn K (.ref C) "__class__" = some (some (.builtin "object.__class__"))) (hn : specialIn K (.builtin "object.__class__") "__get__" = some (some (.builtin "getset_descriptor.__get__"))) (ht : takesIn K (.builtin "object.__class__") = some true)
    (hm : mroIn K C (.type "object") = some true) (h : Q (some (.ref C)) { s with toks := s.toks + 1 }) : wpAny (model prog w) A (getAttr? (.ref x) "__class__") Q E s := by
  have hf : findObj K C (some od) "__class__" = some (.bind (.builtin "getset_descriptor.__get__") (.builtin "object.__class__")) := findObj_data (by obtain ⟨cd, hc, _⟩ := any_some hh; rw [hc]; rfl) ha hn ht
  obtain ⟨hh', g, d, t, os⟩ := s
  have L0 := I.type (M := model prog w)
  have L1 := looks_findIn (M := model prog w) X hga
  have L2 := looks_find (M := model prog w) X I hf
  have L3 := looks_findIn (M := model prog w) X hk
  unfold getAttr? getAttrBy? getAttrBy
  refine wpAny_bind (wpAny_mkText (wpAny_bind (wpAny_attempt (wpAny_holding (wpAny_bind (L0.at (wpAny_bind (L1.at ?_))))))))
  show wpAny _ _ (getAttrEveryday _ _ _) _ _ _
  refine wpAny_bind (wpAny_onRaise (wpAny_runValue (codeAny_builtin F.plainObj_entry_getattr_hooked (wpAny_mono (Q := fun fin s' => match fin with | .done (.ret v) => wpAny (model prog w) A (handedOut v) (fun a s' => wpAny (model prog w) A (Pure.pure (some a)) Q E s') (fun _ _ => False) s' | _ => False) (E := fun _ _ => False) ?_ (fun fin s' z => ?_) fun _ _ z => z.elim))))
  · refine wpAny_bind (wpAny_pure (wpAny_bind (L0.at (wpAny_bind (L2.at (wpAny_bind (L3.at ?_)))))))
    show wpAny _ _ (holding [.builtin "object.__class__"] (call (.builtin "getset_descriptor.__get__") [.builtin "object.__class__", .ref x, .ref C]) >>= ret) _ _ _
    refine wpAny_bind (wpAny_holding (wpAny_call (class_get (s := ⟨hh', g, d, t + 1, os⟩) X I hm ?_)))
    exact wpAny_pure (handed_on rfl (wpAny_pure h))
  · rcases fin with (_ | _ | _ | _) | _ <;> first | exact z.elim | exact wpAny_mono z (fun _ _ z => z) fun _ _ z => z.elim
theorem isu_nested {dep : Int} {tk : Tok} {Q : PySem.Fin → Shared → Prop} (X : K.In s.heap) (I : InstAt s.heap x ox C (some od)) (hCD : C ≠ D) (e0 : (clsIn K D).isSome = true) (e1 : typeIn K (.ref D) = some (.type "type")) (e2 : instIn K (.ref D) (.type "type") = some true) (e3 : subIn K (.ref C) (.ref D) = some false)
    (hC : (clsIn K C).isSome = true) (hCt : instIn K (.ref C) (.type "type") = some true)
    (ca : ∀ {Q : Option Value → Shared → Prop}, Q (some (.ref C)) { s with toks := s.toks + 1 } → wpAny (model prog w) A (getAttr? (.ref x) "__class__") Q E s)
    (h : Q (.done (.ret (.bool false))) { s with toks := s.toks + 1 }) : wpAny (model prog w) A (Builtin.«isinstance.nested» ⟨[.ref x, .ref D, .int dep tk], []⟩) Q E s := by
  have ht := I.type (M := model prog w)
  obtain ⟨hh, g, d, tt, os⟩ := s
  unfold Builtin.«isinstance.nested»
  refine wpAny_bind (ht.at ?_)
  rw [if_neg (fun q => hCD (Value.ref.inj (beq_iff_eq.mp q)))]
  have L1 := looks_typeIn (M := model prog w) X e1
  have L2 := looks_instIn (M := model prog w) X e2
  have L4 : Looks (model prog w) hh (isSubtype (.ref C) (.ref D)) false := looks_subIn X e3
  have L3 : Looks (model prog w) hh (isInstance (.ref x) (.ref D)) false := ht.andThen L4
  have L5 := looks_instIn (M := model prog w) X hCt
  refine wpAny_bind (L1.at ?_)
  rw [if_pos (by decide)]
  k_delta "plainIsInstance"
  unfold isType
  repeat lk
  unfold clsIn at e0 hC
  split at e0
  · rename_i ho
    refine nd_load (X _ _ ho) (nd_pure (wpAny_pure ?_))
    simp only [Bool.not_true, Bool.false_eq_true, if_false]
    refine wpAny_bind (L3.at ?_)
    simp only [Bool.false_eq_true, if_false]
    refine wpAny_bind (ca ?_)
    dsimp only
    split at hC
    · rename_i ho2
      refine nd_load (X _ _ ho2) (wpAny_bind (wpAny_bind (wpAny_pure (wpAny_pure ?_))))
      simp only [Bool.not_true, Bool.false_eq_true, if_false]
      refine wpAny_bind (wpAny_rule (L4.at ?_))
      exact wpAny_pure h
    · cases hC
  · cases e0
theorem isu_int {dep : Int} {tk : Tok} {Q : PySem.Fin → Shared → Prop} (X : K.In s.heap) (I : InstAt s.heap x ox C (some od)) (e3 : subIn K (.ref C) (.type "int") = some false) (hC : (clsIn K C).isSome = true)
    (ca : ∀ {Q : Option Value → Shared → Prop}, Q (some (.ref C)) { s with toks := s.toks + 1 } → wpAny (model prog w) A (getAttr? (.ref x) "__class__") Q E s)
    (h : Q (.done (.ret (.bool false))) { s with toks := s.toks + 1 }) : wpAny (model prog w) A (Builtin.«isinstance.nested» ⟨[.ref x, .type "int", .int dep tk], []⟩) Q E s := by
  have ht := I.type (M := model prog w)
  obtain ⟨hh, g, d, tt, os⟩ := s
  unfold Builtin.«isinstance.nested»
  refine wpAny_bind (ht.at ?_)
  rw [if_neg (fun q => by cases beq_iff_eq.mp q)]
  have L4 : Looks (model prog w) hh (isSubtype (.ref C) (.type "int")) false := looks_subIn X e3
  have L3 : Looks (model prog w) hh (isInstance (.ref x) (.type "int")) false := ht.andThen L4
  refine wpAny_bind (wpAny_of_eq (a := Value.type "type") (by kernel_rfl) ?_)
  rw [if_pos (by decide)]
  k_delta "plainIsInstance"
  unfold isType
  refine wpAny_bind (wpAny_bind (wpAny_pure ?_))
  simp only [Bool.not_true, Bool.false_eq_true, if_false]
  refine wpAny_bind (L3.at ?_)
  simp only [Bool.false_eq_true, if_false]
  refine wpAny_bind (ca ?_)
  dsimp only
  unfold clsIn at hC
  split at hC
  · rename_i ho2
    refine nd_load (X _ _ ho2) (wpAny_bind (wpAny_bind (wpAny_pure (wpAny_pure ?_))))
    simp only [Bool.not_true, Bool.false_eq_true, if_false]
    refine wpAny_bind (wpAny_rule (L4.at ?_))
    exact wpAny_pure h
  · cases hC
end
section
variable {c : Cx} {A : Around} {P : Vw} {σ : St} {E : Value → Vw → St → Prop} {Q : Value → Vw → St → Prop} {x C dx : Addr} {fs : Fs}
theorem mk_cls (kf : KF c) (hC : clsTab.contains C = true) : (clsIn c.K C).isSome = true ∧ instIn c.K (.ref C) (.type "type") = some true := by
  have hd := (kf.cls C hC).hd
  refine e1x2 (any_some hd) ?_; rintro cd hc _
  have hm := (kf.mkC C hC).1
  refine ⟨by rw [hc]; rfl, ?_⟩
  unfold makesIn at hm
  split at hm
  · simp only [Bool.and_eq_true, beq_iff_eq] at hm
    exact hm.2
  · cases hm
theorem T3.isInt (kf : KF c) (kg : KG c) (hC : clsTab.contains C = true) (hx : InP P x C fs) (h : Q (.bool false) P σ) : T3 c A (PySem.call (.builtin "isinstance") [.ref x, .type "int"]) P σ Q E := fun τ s g => by
  obtain ⟨dx, h1, hq94z⟩ := hx; refine e1x2 (hq94z) ?_; clear hq94z; rintro o h2 _
  exact call_isinstance (S := fun _ R s => (c.K.In s.heap ∧ InstAt s.heap x (instObj C dx) C (some o)) ∧ R (.ok (.ret (.bool false))) { s with toks := s.toks + 1 })
    (fun _ _ _ _ _ hs => isinstance_outer (isu_int hs.1.1 hs.1.2 (kf.intF C hC) (mk_cls kf hC).1 (fun q => attr_class hs.1.1 hs.1.2 (kf.cls C hC).ga (kf.cls C hC).gx (kf.cls C hC).hd (kg.klass C hC).1 kg.gs kg.tk (kg.klass C hC).2 q) hs.2) (by intro q; cases q))
    ⟨⟨g.kin, inst_at g h1 (g.ok.per _ _ h2)⟩, en (g.toks _) h⟩
theorem T3.isUser {D : Addr} (kf : KF c) (kg : KG c) (hC : clsTab.contains C = true) (hCD : C ≠ D) (e0 : (clsIn c.K D).isSome = true) (e1 : typeIn c.K (.ref D) = some (.type "type")) (e2 : instIn c.K (.ref D) (.type "type") = some true) (e3 : subIn c.K (.ref C) (.ref D) = some false)
    (hx : InP P x C fs) (h : Q (.bool false) P σ) : T3 c A (PySem.call (.builtin "isinstance") [.ref x, .ref D]) P σ Q E := fun τ s g => by
  obtain ⟨dx, h1, hq96z⟩ := hx; refine e1x2 (hq96z) ?_; clear hq96z; rintro o h2 _
  exact call_isinstance (S := fun _ R s => (c.K.In s.heap ∧ InstAt s.heap x (instObj C dx) C (some o)) ∧ R (.ok (.ret (.bool false))) { s with toks := s.toks + 1 })
    (fun _ _ _ _ _ hs => isinstance_outer (isu_nested hs.1.1 hs.1.2 hCD e0 e1 e2 e3 (mk_cls kf hC).1 (mk_cls kf hC).2 (fun q => attr_class hs.1.1 hs.1.2 (kf.cls C hC).ga (kf.cls C hC).gx (kf.cls C hC).hd (kg.klass C hC).1 kg.gs kg.tk (kg.klass C hC).2 q) hs.2) (by intro q; cases q))
    ⟨⟨g.kin, inst_at g h1 (g.ok.per _ _ h2)⟩, en (g.toks _) h⟩
theorem T3.isLoopT (kf : KF c) (hC : [645, 657, 669].contains C = true) (hx : InP P x C fs) (h : Q (.bool true) P σ) : T3 c A (PySem.call (.builtin "isinstance") [.ref x, .ref 633]) P σ Q E := fun τ s g => by
  obtain ⟨dx, h1, hq98z⟩ := hx; refine e1x2 (hq98z) ?_; clear hq98z; rintro o h2 _
  exact isi_call g.kin (fun M => (inst_at g h1 (g.ok.per _ _ h2)).type) (kf.loopT C hC) (by intro q; cases q) (en g h)
theorem T3.isIntI {i : Int} {t : Tok} (h : Q (.bool true) P σ) : T3 c A (PySem.call (.builtin "isinstance") [.int i t, .type "int"]) P σ Q E := fun τ s g =>
  call_isinstance (isinstance_true (Tx := "int") (T := "int") (by kernel_rfl) (by rw [isSubtype_type]; kernel_rfl)) ⟨typeIs_int _ _ _, en g h⟩
theorem T3.isIntT {a : Addr} {xs : List Value} (ht : TuP P a xs) (h : Q (.bool false) P σ) : T3 c A (PySem.call (.builtin "isinstance") [.ref a, .type "int"]) P σ Q E := fun τ s g => by
  obtain ⟨n, e⟩ := ht
  exact call_isinstance (isinstance_false_tuple (T := "int") (by decide) (by kernel_rfl) (by rw [isSubtype_type]; kernel_rfl)) ⟨⟨_, g.ok.per _ _ e, rfl⟩, en (g.toks _) h⟩
end
end Mine
end
section
open PySem PySem.W PySem.Calls PyProof.Rows PySem.Spec PySem.SeqAt
open Builtin Builtin.ObjectAttr
namespace Mine
/-! exceptions of the text's own class (RegexError, at 95; its __init__ is ToolError's, at 72) -/
structure KX (c : Cx) : Prop where
  obj : ∃ nm q N bs sn sub ab col dd k0 k1 k2 k3 k5, c.K.lookup 95 = some (excClassObj nm q 95 N bs bmX true sn sub ab col dd k0 k1 k2 k3 k5 "Exception.__new__")
  init : findIn c.K (.ref 95) "__init__" = some (some (.ref 72))
  sa : findIn c.K (.ref 95) "__setattr__" = some (some (.builtin "object.__setattr__"))
  ga : findIn c.K (.ref 95) "__getattribute__" = some (some (.builtin "BaseException.__getattribute__"))
  gx : findIn c.K (.ref 95) "__getattr__" = some none
  flds : findIn c.K (.ref 95) (Str.ofString "what") = some none ∧ findIn c.K (.ref 95) (Str.ofString "at") = some none
  call : specialIn c.K (.ref 95) "__call__" = some (some (.builtin "type.__call__"))
  typ : typeIn c.K (.ref 95) = some (.type "type") ∧ instIn c.K (.ref 95) (.type "type") = some true
  exm : exmOne c.K (.ref 95) (.ref 95) = some true
  keep : keepIn c.K (.ref 95) = true
  einit : findCls c.K (.type "Exception") (.type "type") "__init__" = some (.val (.builtin "Exception.__init__"))
  tga : findIn c.K (.type "type") "__getattribute__" = some (some (.builtin "type.__getattribute__"))
  tgx : (if onTheHeap (.type "type") then findIn c.K (.type "type") "__getattr__" else some none) = some none
  tst : subIn c.K (.type "type") (.type "type") = some true
noncomputable def IsX (dx : Option Addr) (o : Obj) : Prop := o.cls = .ref 95 ∧ o.dict = dx ∧ ∃ a0, o.data = .fields #[a0, .none, .none, .none, .bool false, .none]
noncomputable def N1P (m : Str → Option Value) (o : Obj) : Prop := ∃ es ep, o.data = .dict es ep ∧ StrKeys es ∧ UniqKeys es ∧ ∀ name, nsFind es name = m name
theorem n1_at {h : Heap} {a : Addr} {o : Obj} {m : Str → Option Value} (e : h.get? a = some o) (n : N1P m o) : h.Ns1 a m := let ⟨es, ep, x, y, u, z⟩ := n; ⟨o, es, ep, e, x, y, u, z⟩
theorem n1_of {h : Heap} {a : Addr} {m : Str → Option Value} (n : h.Ns1 a m) : ∃ o, h.get? a = some o ∧ N1P m o := let ⟨o, es, ep, e, x, y, u, z⟩ := n; ⟨o, e, es, ep, x, y, u, z⟩

section
variable {c : Cx} {A : Around} {P : Vw} {σ : St} {E : Value → Vw → St → Prop} {Q : Value → Vw → St → Prop} {env : Env} {x dx L : Addr} {pos : Pos}
/-! Exception.__init__(self, what) -/
theorem T3.mExc (kx : KX c) {es : List Expr} {pl : Sem Bool} {p2 : Pos} (h : T3 c A (PySem.callWith p2 (.builtin "Exception.__init__") [] (argTs es env) []) P σ Q E) :
    T3 c A (getMethod (.type "Exception") (Str.ofString "__init__") pl) P σ (fun fm P2 σ2 => T3 c A (PySem.callWith p2 fm.1 fm.2 (argTs es env) []) P2 σ2 Q E) E := fun τ s g => by
  unfold getMethod
  refine wpAny_bind (((Looks.of_pure (t := typeOf (.type "Exception")) (r := .type "type") (by kernel_rfl)).andThen (looks_findIn g.kin kx.tga)).here ?_)
  dsimp only
  rw [if_pos canon_tga]
  refine wpAny_bind (cls_open (c := .type "Exception") (mc := .type "type") g.kin (Looks.of_pure (by kernel_rfl)) (Looks.of_pure (by kernel_rfl)) kx.tga (looks_hook g.kin kx.tgx) kx.tst kx.einit ?_)
  refine wpAny_pure ?_
  show wpAny _ _ (handedOut (.builtin "Exception.__init__")) _ _ _
  exact handed_on (by kernel_rfl) (wpAny_pure ⟨P, σ, Le.refl _, g.toks _, h⟩)
theorem T3.excInit (kx : KX c) {φ : Obj → Prop} {v : Value} (h : Q .none P ((L, φ) :: (x, IsX none) :: σ)) : T3 c A (PySem.call (.builtin "Exception.__init__") [.ref x, v]) P ((L, φ) :: (x, IsX none) :: σ) Q E := fun τ s g => by
  refine e0x3 (g.ok.mu (x, IsX none) (.tail _ (.head _))) ?_; rintro hq99z hp ht; obtain ⟨o, ho, hc, hd, a0, hf⟩ := hq99z
  have hp : P x = none := hp
  have ht : τ x = none := ht
  have ho : s.heap.get? x = some o := ho
  have F := PySem.F.excCall_Exception
  obtain ⟨nm, q, N, bs, sn, sub, ab, col, dd, k0, k1, k2, k3, k5, hC⟩ := kx.obj
  have hC' := g.kin _ _ hC
  have hs : Looks (model c.prog c.w) s.heap (isInstance (.ref x) (.type "Exception")) true := by
    have L0 : Looks (model c.prog c.w) s.heap (typeOf (.ref x)) (.ref 95) := hc ▸ (Looks.ld ho).andThen .now
    refine L0.andThen (looks_mroIn g.kin (K := c.K) ?_)
    unfold mroIn clsIn
    rw [hC]
    rfl
  have chk : ∀ {A' : Around} {Q' : Unit → Shared → Prop} {E' : Value → Shared → Prop}, Q' () s → wpAny (model c.prog c.w) A' (checkBuiltinCall "Exception.__init__" ⟨[.ref x, v], []⟩) Q' E' s := fun {A' Q' E'} q => by
    obtain ⟨hh, gg, dr, tk, os⟩ := s
    dsimp only at ho hC' hs
    have hshort := F.noStar
    simp only [checkBuiltinCall, F.initKind, F.initSplit, F.initRow]
    refine wpAny_bind (hs.at ?_)
    simp only [Bool.not_true, Bool.false_eq_true, if_false]
    repeat (first | (with_reducible refine wpAny_loadPart_at ho ?_; rw [hc]) | with_reducible refine wpAny_loadPart_at hC' ?_ | wp_step)
    exact q
  refine wpAny_call (codeAny_call_builtin F.init.plain F.initEntry (chk ?_))
  show wpAny _ _ (newTuple [v] >>= fun t => PySem.Builtin.BaseException.bexcPut (.ref x) 0 t >>= fun _ => ret .none) _ _ _
  unfold newTuple
  refine wpAny_bind (wpAny_newObj_type ?_ (by show [v].toArray.size ≤ sizeLine; rw [sizeLine_eq]; exact Nat.le_of_ble_eq_true rfl))
  have ho1 := Heap.get?_push_of_some { cls := .type "tuple", data := .seq [v].toArray } ho
  unfold PySem.Builtin.BaseException.bexcPut
  refine wpAny_bind (wpAny_bind (wpAny_field ho1 hf (x := a0) rfl (wpAny_bind (wpAny_setField ho1 hf (by show 0 < 6; decide) ?_))))
  have fin : ∀ s', s'.heap = (s.heap.push { cls := .type "tuple", data := .seq [v].toArray }).update x (Obj.mapFields (·.setIfInBounds 0 (.ref s.heap.objs.size))) → s'.gens = s.gens → s'.os = s.os → ∃ P' σ', Le P P' ∧ Gd c P' σ' τ s' ∧ Q .none P' σ' := fun s' e1 e2 e3 => by
    have g1 := g.ok.pushM (o := { cls := .type "tuple", data := .seq [v].toArray }) (φ := fun _ => True) rfl trivial
    refine i2x3 P _ (Le.refl _) ⟨?_, e2.trans g.gens, e3.trans g.os⟩ h
    rw [e1]
    refine Ok.updAt (pre := [_]) g1.drop (φ := IsX none) (φ' := IsX none) (fun b nb o' e => (Heap.get?_update_other _ _ (Ne.symm nb)).trans e) ?_
    refine ⟨_, Heap.get?_update_self _ ho1 ?_, ?_, ?_, .ref s.heap.objs.size, ?_⟩
    · exact Obj.isFreed_of_fields (Obj.data_mapFields hf _)
    · exact (Obj.cls_mapFields _ _).trans hc
    · obtain ⟨oc, od, odt, osl⟩ := o
      obtain rfl : odt = _ := hf
      exact hd
    · rw [Obj.data_mapFields hf]; rfl
  cases a0 with
  | ref r => exact wpAny_letGo (wpAny_pure (fin _ rfl rfl rfl))
  | _ => exact wpAny_pure (wpAny_pure (fin _ rfl rfl rfl))
end

/-! making one -/
section
variable {c : Cx} {A : Around} {P : Vw} {σ : St} {E : Value → Vw → St → Prop} {Q : Value → Vw → St → Prop}
set_option maxHeartbeats 4000000 in
theorem new_exc0 {prog : Program} {w : World} {A : Around} {R : Result → Shared → Prop} {h : Heap} {g : Array GenState} {d : Drawn} {t : Nat} {os : OsState} {nm q : Str} {C N : Addr} {bs : List Value} {sn : List Str} {sub : List Value} {ab : Bool} {col : Option Bool} {dd : Option Addr} {k0 k1 k2 k3 k5 : Option Value}
    {rest : List Value} {b0 : Addr} (hC : h.get? C = some (excClassObj nm q C N bs [.ref b0, .type "Exception", .type "BaseException", .type "object"] true sn sub ab col dd k0 k1 k2 k3 k5 "Exception.__new__")) (hrest : rest.length ≤ sizeLine)
    (hq : R (.ok (.ret (.ref (h.objs.size + 1)))) ⟨(h.push { cls := .type "tuple", data := .seq rest.toArray }).push { cls := .ref C, data := .fields #[.ref h.objs.size, .none, .none, .none, .bool false, .none] }, g, d, t, os⟩) :
    codeAny (model prog w) A (.builtin "Exception.__new__" ⟨.ref C :: rest, []⟩) R ⟨h, g, d, t, os⟩ := by
  have F := PySem.F.excBase_Exception
  have cB : ([Value.ref C, .ref b0, .type "Exception", .type "BaseException", .type "object"]).contains (.type "Exception") = true := rfl
  have cA : ([Value.ref C, .ref b0, .type "Exception", .type "BaseException", .type "object"]).contains (.type "AttributeError") = false := rfl
  have cN : ([Value.ref C, .ref b0, .type "Exception", .type "BaseException", .type "object"]).contains (.type "NameError") = false := rfl
  have hends := F.ends
  refine codeAny_builtinAt F.entry ?_
  unfold Builtin.«BaseException.__new__»
  refine PySem.wpAt_bind ?_
  show PySem.wpAt _ _ _ (stack >>= _) _ _ _
  refine PySem.wpAt_bind (PySem.wpAt_stack fun p below => PySem.wpAt_of_wpAny ?_)
  wp_walk
  refine PySem.wpAt_of_wpAny ?_
  rw [F.owner]
  repeat (first | with_reducible refine wpAny_madeHere_exc F.canon hC ?_ | with_reducible refine wpAny_loadPart_at hC ?_ | (with_reducible refine wpAny_isSubtype_exc hC ?_; first | rw [cB] | rw [cA] | rw [cN]) | wp_step)
  show R _ _
  rw [Heap.size_push]
  exact hq
set_option maxHeartbeats 4000000 in
theorem new_exc {prog : Program} {w : World} {A : Around} {E : Value → Shared → Prop} {h : Heap} {g : Array GenState} {d : Drawn} {t : Nat} {os : OsState} {nm q : Str} {C N : Addr} {bs : List Value} {sn : List Str} {sub : List Value} {ab : Bool} {col : Option Bool} {dd : Option Addr} {k0 k1 k2 k3 k5 : Option Value}
    {rest : List Value} {fI : Addr} {Q : Value → Shared → Prop} {b0 : Addr} (hC : h.get? C = some (excClassObj nm q C N bs [.ref b0, .type "Exception", .type "BaseException", .type "object"] true sn sub ab col dd k0 k1 k2 k3 k5 "Exception.__new__"))
    (hi : Looks (model prog w) h (typeLookup (.ref C) "__init__") (some (.ref fI))) (hf : Looks (model prog w) h (typeOf (.ref fI)) (.type "function")) (hrest : rest.length ≤ sizeLine)
    (hq : wpAny (model prog w) (A.under (.builtin "type.__call__" ⟨.ref C :: rest, []⟩)) (PySem.call (.ref fI) (.ref (h.objs.size + 1) :: rest)) (fun r s' => r = .none ∧ Q (.ref (h.objs.size + 1)) s') E
      ⟨(h.push { cls := .type "tuple", data := .seq rest.toArray }).push { cls := .ref C, data := .fields #[.ref h.objs.size, .none, .none, .none, .bool false, .none] }, g, d, t, os⟩) :
    wpAny (model prog w) A (PySem.call (.ref C) rest) Q E ⟨h, g, d, t, os⟩ := by
  have F := PySem.F.excBase_Exception
  have f1 := tc_lookup
  have f2 := tc_bind (.ref C)
  have hT : (⟨h, g, d, t, os⟩ : Shared).TypeIs (.ref C) "type" := ⟨_, hC, rfl⟩
  have cB : ([Value.ref C, .ref b0, .type "Exception", .type "BaseException", .type "object"]).contains (.type "Exception") = true := rfl
  have cA : ([Value.ref C, .ref b0, .type "Exception", .type "BaseException", .type "object"]).contains (.type "AttributeError") = false := rfl
  have cN : ([Value.ref C, .ref b0, .type "Exception", .type "BaseException", .type "object"]).contains (.type "NameError") = false := rfl
  have cC : ([Value.ref C, .ref b0, .type "Exception", .type "BaseException", .type "object"]).contains (.ref C) = true := by simp
  refine wpAny_call (codeAny_of_tree ?_)
  show wpAny _ _ (callAny (.ref C) _) _ _ _
  repeat (any_goals (first | assumption | with_reducible refine wpAny_loadPart_at hC ?_ | wp_step))
  refine ⟨rfl, ?_⟩
  refine codeAny_call_builtin_at (Code.quiet_builtin _ (by decide +kernel)) entry_typeCall (wpAny_check_type_call_sub hC ?_)
  repeat (first | with_reducible refine wpAny_loadPart_at hC ?_ | with_reducible refine wpAny_madeBy_exc hC ?_ | wp_step)
  refine codeAny_call_builtin_code (Code.quiet_builtin _ F.quiet) ?_
  have hstar := F.noStar
  simp only [checkBuiltinCall, F.newKind, F.newSplit, F.newRow]
  repeat (first | refine wpAny_loadPart_at hC ?_ | (refine wpAny_isSubtype_exc hC ?_; rw [cB]) | refine wpAny_staticBase_exc hC ?_ | refine wpAny_madeBy_exc hC ?_ | simp only [bne_self_eq_false, Bool.false_eq_true, if_false] | wp_step)
  refine new_exc0 hC hrest ?_
  show wpAny _ _ _ _ _ _
  have k : ∀ b o, h.get? b = some o → ((h.push { cls := .type "tuple", data := .seq rest.toArray }).push { cls := .ref C, data := .fields #[.ref h.objs.size, .none, .none, .none, .bool false, .none] }).get? b = some o := fun b o e => Heap.get?_push_of_some _ (Heap.get?_push_of_some _ e)
  have hC₁ := k _ _ hC
  have hget : ((h.push { cls := .type "tuple", data := .seq rest.toArray }).push
      { cls := .ref C, data := .fields #[.ref h.objs.size, .none, .none, .none, .bool false, .none] }).get? (h.objs.size + 1) = some
      { cls := .ref C, data := .fields #[.ref h.objs.size, .none, .none, .none, .bool false, .none] } := by heap_get
  have i1 := hi.keeps k
  have b1 : Looks (model prog w) ((h.push { cls := .type "tuple", data := .seq rest.toArray }).push { cls := .ref C, data := .fields #[.ref h.objs.size, .none, .none, .none, .bool false, .none] }) (bindSpecial (.ref fI) (.ref (h.objs.size + 1))) (.ref fI, [.ref (h.objs.size + 1)]) := (hf.keeps k).andThen .now
  unfold isInstance
  repeat (first | with_reducible refine wpAny_loadPart_at hget ?_ | (with_reducible refine wpAny_isSubtype_exc hC₁ ?_; rw [cC]) | wp_step)
  show wpAny _ _ (isSubtype (.ref C) (.ref C)) _ _ _
  refine wpAny_isSubtype_exc hC₁ ?_
  rw [cC]
  repeat wp_step
  show wpAny _ _ (typeLookup (.ref C) _) _ _ _
  refine i1.at ?_
  refine wpAny_holding (wpAny_bind (b1.at (wpAny_bind (wpAny_mono hq (fun r s' hr => ?_) fun _ _ x => x))))
  obtain ⟨rfl, hQ⟩ := hr
  wp_walk
  exact hQ
theorem T3.newX (kf : KF c) (kx : KX c) {args : List Value} (hz : args.length ≤ 100) (h : ∀ x P', Le P P' → P x = none → T3 c (A.under (.builtin "type.__call__" ⟨.ref 95 :: args, []⟩)) (PySem.call (.ref 72) (.ref x :: args)) P' ((x, IsX none) :: σ) (fun v P2 σ2 => v = .none ∧ Q (.ref x) P2 σ2) E) :
    T3 c A (PySem.call (.ref 95) args) P σ Q E := fun τ s g => by
  obtain ⟨nm, q, N, bs, sn, sub, ab, col, dd, k0, k1, k2, k3, k5, hC⟩ := kx.obj
  have g1 := g.ok.pushM (o := { cls := .type "tuple", data := .seq args.toArray }) (φ := fun _ => True) rfl trivial
  have g2 := g1.drop.pushM (o := { cls := .ref 95, data := .fields #[.ref s.heap.objs.size, .none, .none, .none, .bool false, .none] }) (φ := IsX none) rfl ⟨rfl, rfl, _, rfl⟩
  have hs : (s.heap.push { cls := .type "tuple", data := .seq args.toArray }).objs.size = s.heap.objs.size + 1 := Heap.size_push ..
  rw [hs] at g2
  have hn := g2.mu _ (.head _)
  obtain ⟨hh, gg, d, t, os⟩ := s
  refine new_exc (g.kin _ _ hC) (looks_findIn g.kin kx.init) (looks_typeIn g.kin (beq_iff_eq.mp (kf.fn 72 (by kernel_rfl)).2)) (by rw [sizeLine_eq]; omega) ?_
  refine wpAny_mono (h (hh.objs.size + 1) P (Le.refl _) hn.2.1 τ _ ⟨g2, g.gens, g.os⟩) (fun v s' ⟨P2, σ2, l2, g2, hv, q2⟩ => ⟨hv, P2, σ2, l2, g2, q2⟩) fun _ _ z => z
end
end Mine
end
section
open PySem PySem.W PySem.Calls PyProof.Rows PySem.Spec PySem.SeqAt
open Builtin Builtin.ObjectAttr
namespace Mine
/-! fields of an exception -/
section
variable {c : Cx} {A : Around} {P : Vw} {σ : St} {E : Value → Vw → St → Prop} {Q : Value → Vw → St → Prop} {env : Env} {x dx L : Addr} {pos : Pos} {n : Str} {v : Value}
theorem instX {τ : Vw} {s : Shared} {od : Option Obj} {o : Obj} (ho : s.heap.get? x = some o) (hc : o.cls = .ref 95) (hf : ∃ vs, o.data = .fields vs) (hd : match o.dict, od with | some dx, some o => s.heap.get? dx = some o | none, none => True | _, _ => False) : InstAt s.heap x o 95 od := by
  refine ⟨ho, hc, ?_, hd⟩
  obtain ⟨vs, hf⟩ := hf
  unfold notCls
  rw [hf]
theorem clsX (kx : KX c) : ∃ cd, clsIn c.K 95 = some cd ∧ cd.hasDict = true ∧ cd.mro = .ref 95 :: bmX := by
  obtain ⟨nm, q, N, bs, sn, sub, ab, col, dd, k0, k1, k2, k3, k5, hC⟩ := kx.obj
  exact i1x3 _ (by unfold clsIn; rw [hC]) rfl rfl
theorem saX {R : Result → Shared → Prop} {s : Shared} {τ : Vw} (kx : KX c) (g : Gd c P σ τ s) {ox : Obj} {od : Option Obj} {tk : Tok} (I : InstAt s.heap x ox 95 od) (ht : findIn c.K (.ref 95) n = some none)
    (h : wpAny (model c.prog c.w) A.in1 (storeInOwnDict (.ref x) (.ref 95) (.str n tk) n v false)
      (fun fin s' => match fin with | .done f => R (.ok f) s' | .again c' => c'.quiet = true ∧ codeAny (model c.prog c.w) A c' R s') (fun e s' => R (.error e) s') s) :
    codeAny (model c.prog c.w) A (.call (.builtin "object.__setattr__") ⟨[.ref x, .str n tk, v], []⟩) R s := by
  have SF := PySem.F.store_object
  refine e1x3 (clsX kx) ?_; rintro cd hc _ hm
  have sub : Looks (model c.prog c.w) s.heap (isInstance (.ref x) (.type "object")) true := I.type.andThen (looks_mroIn g.kin (by unfold mroIn; rw [hc, Option.bind_some, hm]; rfl))
  refine codeAny_call_builtin SF.slot.plain SF.entry (@check_slot (model c.prog c.w) _ _ s "object.__setattr__" "object" "__setattr__" (.ref x) [.str n tk, v] [] _ SF.kind SF.split sub (SF.args (.ref x) (.str n tk) v) ?_)
  have hmro : Looks (model c.prog c.w) s.heap (mroOf (.ref 95)) (.ref 95 :: bmX) := hm ▸ (looks_clsIn g.kin hc).andThen .now
  rw [osa_eq, refuse_eq]
  refine wpAny_bind (wpAny_bind (I.type.here (wpAny_bind (hmro.here ?_))))
  rw [refuseLoop_ref, refuseLoop_ref, PySem.F.store_Exception.passes]
  exact wpAny_pure (wpAny_bind (I.type.here (wpAny_bind ((looks_findIn g.kin ht).here (wpAny_bind (wpAny_pure h))))))
theorem Gd.setX {τ : Vw} {s : Shared} (g : Gd c P σ τ s) {h' : Heap} {k : Nat} {σ' : St} (hk : Ok c P σ' τ h') : Gd c P σ' τ { s with heap := h', toks := k } := ⟨hk, g.gens, g.os⟩
theorem T3.setX0 (kx : KX c) {φ : Obj → Prop} {Q : Unit → Vw → St → Prop} (ht : findIn c.K (.ref 95) n = some none) (h : ∀ dx, Q () P ((L, φ) :: (x, IsX (some dx)) :: (dx, N1P (fun y => if y = n then some v else none)) :: σ)) :
    T3 c A (setAttr (.ref x) n v) P ((L, φ) :: (x, IsX none) :: σ) Q E := fun τ s g => by
  refine e0x3 (g.ok.mu (x, IsX none) (.tail _ (.head _))) ?_; rintro hq114z hp htau; obtain ⟨o, ho, hc, hd, a0, hf⟩ := hq114z
  have hp : P x = none := hp
  have htau : τ x = none := htau
  have ho : s.heap.get? x = some o := ho
  have I : InstAt s.heap x o 95 none := instX (τ := τ) ho hc ⟨_, hf⟩ (by rw [hd]; trivial)
  refine e1x3 (clsX kx) ?_; rintro cd hcl hdict _
  refine set_plain g.kin I kx.sa ?_
  refine saX kx (g.toks _) (s := { s with toks := s.toks + 1 }) I ht ?_
  have g1 := g.ok.pushM (o := { cls := .type "dict", data := .dict #[] }) (φ := N1P fun _ => none) rfl ⟨#[], _, rfl, fun e he => absurd he (by simp), by simp [UniqKeys], fun _ => rfl⟩
  have ho1 := Heap.get?_push_of_some { cls := .type "dict", data := .dict #[] } ho
  obtain ⟨oc, od, odt, osl⟩ := o
  dsimp only at hc hd hf
  subst hc hd hf
  refine wpAny_bind (wpAny_pure (wpAny_bind (wpAny_bind (wpAny_loadPart ho (wpAny_bind ((looks_clsIn (g.toks (s.toks + 1)).kin hcl).here ?_))))))
  rw [hdict]
  show wpAny _ _ (alloc { cls := .type "dict", data := .dict #[] } >>= fun d => update x (fun o => { o with dict := some d }) >>= fun _ => dictMade (.ref 95) x d) _ _ _
  refine wpAny_bind (wpAny_alloc (wpAny_bind (wpAny_update ho1 (wpAny_pure ?_))))
  have hxs : x ≠ s.heap.objs.size := Nat.ne_of_lt (Heap.lt_size ho)
  have g2 : Ok c P ((s.heap.objs.size, N1P fun _ => none) :: (L, φ) :: (x, IsX (some s.heap.objs.size)) :: σ) τ ((s.heap.push { cls := .type "dict", data := .dict #[] }).update x fun o => { o with dict := some s.heap.objs.size }) := by
    refine Ok.updAt (pre := [_, _]) g1 (φ := IsX none) (fun b nb o' e => (Heap.get?_update_other _ _ (Ne.symm nb)).trans e) ?_
    exact ⟨_, Heap.get?_update_self _ ho1 rfl, rfl, rfl, _, rfl⟩
  generalize hH : ((s.heap.push { cls := .type "dict", data := .dict #[] }).update x fun o => { o with dict := some s.heap.objs.size }) = H at g2
  show wpAny _ _ (storeInDict s.heap.objs.size (.str n s.toks) n v) _ _ _
  obtain ⟨⟨o3, ho3, n3⟩, _⟩ := g2.mu _ (.head _)
  unfold storeInDict newKeyGuard
  refine wpAny_bind (wpAny_pure (wpAny_bind (wpAny_nsSet1 (m := fun _ => none) (n1_at ho3 n3) fun h' hn' hs => ?_)))
  refine e3x3 (hn'.count (Within.cons n v Within.nil)) ?_; rintro oD esD epD hoD hdD hcD
  refine wpAny_bind (wpAny_lookBehind hoD (by rw [hdD]; exact pastItsLine_dict (Nat.le_trans hcD (by rw [List.length_cons, List.length_nil, sizeLine_eq]; omega))) ?_)
  refine wpAny_pure ?_
  show ∃ P' σ', _
  refine i2x3 P _ (Le.refl _) (g.setX ?_) (h s.heap.objs.size)
  have g3 := g2.update (h' := h') (φ' := N1P (fun y => if y = n then some v else none)) (fun b nb o e => (hs.2 b nb).trans e) (n1_of hn')
  exact g3.perm (List.perm_middle (l₁ := [_, _])).symm
theorem T3.setX1 (kx : KX c) {φ : Obj → Prop} {m : Str → Option Value} {ns : List Str} {Q : Unit → Vw → St → Prop} (ht : findIn c.K (.ref 95) n = some none) (hw : Within m ns) (hsz : ns.length ≤ 100) (h : Q () P ((L, φ) :: (x, IsX (some dx)) :: (dx, N1P (fun y => if y = n then some v else m y)) :: σ)) :
    T3 c A (setAttr (.ref x) n v) P ((L, φ) :: (x, IsX (some dx)) :: (dx, N1P m) :: σ) Q E := fun τ s g => by
  refine e0x3 (g.ok.mu (x, IsX (some dx)) (.tail _ (.head _))) ?_; rintro hq121z hp htau; obtain ⟨o, ho, hc, hd, a0, hf⟩ := hq121z
  obtain ⟨⟨o3, ho3, n3⟩, _⟩ := g.ok.mu (dx, N1P m) (.tail _ (.tail _ (.head _)))
  have ho : s.heap.get? x = some o := ho
  have ho3 : s.heap.get? dx = some o3 := ho3
  have I : InstAt s.heap x o 95 (some o3) := instX (τ := τ) ho hc ⟨_, hf⟩ (by rw [hd]; exact ho3)
  refine e1x3 (clsX kx) ?_; rintro cd hcl hdict _
  refine set_plain g.kin I kx.sa ?_
  refine saX kx (g.toks _) (s := { s with toks := s.toks + 1 }) I ht ?_
  obtain ⟨oc, od, odt, osl⟩ := o
  dsimp only at hc hd hf
  subst hc hd hf
  refine wpAny_bind (wpAny_pure (wpAny_bind (wpAny_bind (wpAny_loadPart ho (wpAny_bind ((looks_clsIn (g.toks (s.toks + 1)).kin hcl).here ?_))))))
  rw [hdict]
  refine wpAny_pure (a := some dx) ?_
  show wpAny _ _ (storeInDict dx (.str n s.toks) n v) _ _ _
  unfold storeInDict newKeyGuard
  refine wpAny_bind (wpAny_pure (wpAny_bind (wpAny_nsSet1 (m := m) (n1_at ho3 n3) fun h' hn' hs => ?_)))
  refine e3x3 (hn'.count (Within.cons n v hw)) ?_; rintro oD esD epD hoD hdD hcD
  refine wpAny_bind (wpAny_lookBehind hoD (by rw [hdD]; exact pastItsLine_dict (Nat.le_trans hcD (by rw [List.length_cons, sizeLine_eq]; omega))) ?_)
  refine wpAny_pure ?_
  refine i2x3 P _ (Le.refl _) (g.setX ?_) h
  exact Ok.updAt (pre := [_, _]) g.ok (fun b nb o e => (hs.2 b nb).trans e) (n1_of hn')
/-- a field is read -/
theorem getX {R : Value → Shared → Prop} {E : Value → Shared → Prop} {s : Shared} {τ : Vw} {expr : Bool} (kx : KX c) (g : Gd c P σ τ s) {ox od : Obj} (I : InstAt s.heap x ox 95 (some od)) (ht : findIn c.K (.ref 95) n = some none) (hl : lookIn n od = some (some v)) (hv : handedIn v = true)
    (h : R v { s with toks := s.toks + 1 }) : wpAny (model c.prog c.w) A (getAttr (.ref x) n expr) R E s := by
  refine e1x3 (clsX kx) ?_; rintro cd hcl hdict hm
  have hf : findObj c.K 95 (some od) n = some (.value v) := by
    unfold findObj W.ownOf
    rw [hcl, Option.bind_some, ht, Option.bind_some, hdict]
    show ((lookIn n od).bind _ : Option Found) = _
    rw [hl]; rfl
  have L0 := I.type (M := model c.prog c.w)
  have L1 := looks_findIn (M := model c.prog c.w) g.kin kx.ga
  have L2 := looks_find (M := model c.prog c.w) g.kin I hf
  have sub : Looks (model c.prog c.w) s.heap (isInstance (.ref x) (.type "BaseException")) true := L0.andThen (looks_mroIn g.kin (by unfold mroIn; rw [hcl, Option.bind_some, hm]; rfl))
  obtain ⟨hh, gg, d, t, os⟩ := s
  unfold getAttr getAttrBy
  refine wpAny_bind (wpAny_mkText (wpAny_holding (wpAny_bind (L0.at (wpAny_bind (L1.at ?_))))))
  have FA := PySem.F.attr_Exception
  have hx2 : (Value.builtin "BaseException.__getattribute__" == Value.builtin "object.__getattribute__") = false := by decide +kernel
  dsimp only
  rw [hx2, Bool.and_false, if_neg Bool.false_ne_true]
  have L3 : Looks (model c.prog c.w) hh (hookBefore (.ref 95)) none := looks_findIn (M := model c.prog c.w) g.kin kx.gx
  unfold getAttrByItsOwn
  refine wpAny_bind (L3.at (wpAny_bind (wpAny_attempt (wpAny_holding ?_))))
  unfold callGetattribute
  rw [show (expr && onTheHeap (Value.builtin "BaseException.__getattribute__")) = false from Bool.and_false _, if_neg (by decide)]
  unfold boundAndCalled
  rw [FA.ga.bind]
  refine wpAny_bind (wpAny_pure ?_)
  show wpAny _ _ (PySem.call (.builtin "BaseException.__getattribute__") [.ref x, .str n t]) _ _ _
  refine wpAny_call (codeAny_call_builtin FA.ga.plain F.entry_bexc_ga (@check_slot (model c.prog c.w) _ _ _ "BaseException.__getattribute__" "BaseException" "__getattribute__" (.ref x) [.str n t] [] _ (by decide +kernel) (by decide +kernel) sub (F.args_bexc_ga _ _) ?_))
  unfold Builtin.«object.__getattribute__»
  refine wpAny_bind (wpAny_pure (wpAny_bind (wpAny_pure (wpAny_bind (L0.at (wpAny_bind (L2.at ?_)))))))
  refine wpAny_pure ?_
  show wpAny _ _ (handedOut v) _ _ _
  rw [handedOut_of hv]
  exact wpAny_pure h
end
end Mine
end
section
open PySem PySem.W PySem.Calls PyProof.Rows PySem.Spec PySem.SeqAt
namespace Mine
/-! raising -/
noncomputable def IsY (dx : Addr) (T : Addr) (o : Obj) : Prop := o.cls = .ref 95 ∧ o.dict = some dx ∧ ∃ vs, o.data = .fields vs ∧ 1 < vs.size ∧ vs[1]? = some (.ref T)
noncomputable def IsTb (o : Obj) : Prop := ∃ ts, o.data = .fields ts ∧ ts[3]? = some .none
noncomputable def FrIn (l : List Env) (σ : St) : Prop := ∀ env ∈ l, env.scope.kind ≠ .module ∧ ∃ L m, env.frame = some L ∧ (L, NsP m) ∈ σ
noncomputable abbrev e0 : Heap := ⟨#[], {}⟩
theorem nsP_data {m : Lo} {o : Obj} (h : NsP m o) : ∀ vs, o.data ≠ .fields vs := fun vs e => by
  refine e2x2 (h) ?_; rintro es ep hd _
  rw [hd] at e; cases e
theorem nsP_slots {m : Lo} {o : Obj} (h : NsP m o) (sl : Array (Option Value)) : NsP m { o with slots := sl } := h
theorem FrIn.fun {c : Cx} {P : Vw} {σ : St} {τ : Vw} {h : Heap} (k : Ok c P σ τ h) : ∀ {l : List Env}, FrIn l σ → h.FunFrames e0 l
  | [], _ => trivial
  | env :: r, f => by
    obtain ⟨h1, hq132z⟩ := f env (.head _); refine e2x2 (hq132z) ?_; clear hq132z; rintro L m h2 h3
    obtain ⟨⟨o, ho, hφ⟩, _⟩ := k.mu _ h3
    exact i0x3 h1 ⟨L, o, h2, by simp [Heap.get?], ho, nsP_data hφ⟩ (FrIn.fun k fun e he => f e (.tail _ he))
theorem nd_uniq : ∀ {σ : St}, (σ.map (·.1)).Nodup → ∀ {y z : Addr × (Obj → Prop)}, y ∈ σ → z ∈ σ → y.1 = z.1 → y = z
  | [], _, _, _, h, _, _ => nomatch h
  | w :: r, hn, y, z, hy, hz, e => by
    rw [List.map_cons, List.nodup_cons] at hn
    rcases List.mem_cons.mp hy with e1 | h1
    · rcases List.mem_cons.mp hz with e2 | h2
      · exact e1.trans e2.symm
      · subst e1; exact (hn.1 (List.mem_map.mpr ⟨z, h2, e.symm⟩)).elim
    · rcases List.mem_cons.mp hz with e2 | h2
      · subst e2; exact (hn.1 (List.mem_map.mpr ⟨y, h1, e⟩)).elim
      · exact nd_uniq hn.2 h1 h2 e
section
variable {c : Cx} {A : Around} {P : Vw} {σ : St} {E : Value → Vw → St → Prop} {Q : Value → Vw → St → Prop} {env : Env} {x dx L T : Addr} {pos : Pos} {n : Str} {v : Value}
theorem Ok.noted {τ : Vw} {h h' : Heap} {φ φ' : Obj → Prop} {l : List Env} (k : Ok c P ((x, φ) :: σ) τ h) (f : FrIn l σ)
    (k1 : ∀ b o, b ∉ l.filterMap (·.frame) → b ≠ x → h.get? b = some o → h'.get? b = some o) (k2 : ∀ b o, b ≠ x → h.get? b = some o → ∃ sl, h'.get? b = some { o with slots := sl }) (hx : ∃ o, h'.get? x = some o ∧ φ' o) : Ok c P ((x, φ') :: σ) τ h' := by
  have mem : ∀ b, b ∈ l.filterMap (·.frame) → ∃ m, (b, NsP m) ∈ σ := fun b hb => by
    refine e1x2 (List.mem_filterMap.mp hb) ?_; rintro env he hf
    obtain ⟨_, hq134z⟩ := f env he; refine e2x2 (hq134z) ?_; clear hq134z; rintro L m h2 h3
    rw [hf] at h2; cases h2; exact ⟨m, h3⟩
  refine e0x3 (k.mu _ (.head _)) ?_; rintro _ hp ht
  have hp : P x = none := hp
  have ht : τ x = none := ht
  have nd := List.nodup_cons.mp k.nd
  refine ⟨k.base, fun b o e => k1 b o (fun hb => ?_) (fun q => ?_) (k.per b o e), fun b o e => k1 b o (fun hb => ?_) (fun q => ?_) (k.frm b o e), k.dis, fun z hz => ?_, k.nd⟩
  · obtain ⟨m, hm⟩ := mem b hb
    have := (k.mu _ (.tail _ hm)).2.1
    rw [e] at this; cases this
  · subst q; rw [hp] at e; cases e
  · obtain ⟨m, hm⟩ := mem b hb
    have := (k.mu _ (.tail _ hm)).2.2
    rw [e] at this; cases this
  · subst q; rw [ht] at e; cases e
  · rcases List.mem_cons.mp hz with rfl | hz
    · exact i0x3 hx hp ht
    · obtain ⟨⟨o, ho, hφ⟩, r⟩ := k.mu z (.tail _ hz)
      have hne : z.1 ≠ x := fun q => nd.1 (List.mem_map.mpr ⟨z, hz, q⟩)
      by_cases hb : z.1 ∈ l.filterMap (·.frame)
      · obtain ⟨m, hm⟩ := mem _ hb
        have e : z = (z.1, NsP m) := by
          exact nd_uniq nd.2 hz hm rfl
        obtain ⟨sl, hs⟩ := k2 _ _ hne ho
        refine ⟨⟨_, hs, ?_⟩, r⟩
        have hφ' : NsP m o := by have := hφ; rw [e] at this; exact this
        rw [e]
        exact nsP_slots hφ' sl
      · exact ⟨⟨o, k1 _ _ hb hne ho, hφ⟩, r⟩
theorem Ok.more {τ : Vw} {h : Heap} {φ : Obj → Prop} (k : Ok c P σ τ h) (h1 : P T = none) (h2 : τ T = none) (h3 : ∀ z ∈ σ, z.1 ≠ T) (h4 : ∃ o, h.get? T = some o ∧ φ o) : Ok c P ((T, φ) :: σ) τ h :=
  ⟨k.base, k.per, k.frm, k.dis, fun z hz => by
    rcases List.mem_cons.mp hz with rfl | hz
    · exact i0x3 h4 h1 h2
    · exact k.mu z hz, by
    rw [List.map_cons]
    refine List.nodup_cons.mpr ⟨fun hm => ?_, k.nd⟩
    refine e1x2 (List.mem_map.mp hm) ?_; rintro z hz e
    exact h3 z hz e⟩
theorem entryX {M : Model} {s : Shared} {outer : List Env} {E : Value → Shared → Prop} {e : Addr} {oe : Obj} {vs : Array Value} {head : Value} {hadNext : Bool} {Q : Unit → Shared → Prop}
    (hfr : A.frames = some (env :: outer)) (hl : s.heap.FunFrames e0 (env :: outer)) (hf : env.frame = some L) (he : s.heap.get? e = some oe) (hd : oe.data = .fields vs) (hsz : 1 < vs.size)
    (h : ∀ h', (∀ b o, b ∉ (env :: outer).filterMap (·.frame) → b ≠ e → s.heap.get? b = some o → h'.get? b = some o) → (∀ b o, b ≠ e → s.heap.get? b = some o → ∃ sl, h'.get? b = some { o with slots := sl }) →
      h'.get? e = some (oe.mapFields (·.setIfInBounds 1 (.ref s.heap.objs.size))) → (∃ oT ts, h'.get? s.heap.objs.size = some oT ∧ oT.data = .fields ts ∧ 3 < ts.size) → Q () { s with heap := h' }) :
    wpAny M A (do let a ← frameOf env; let pl ← entryPlaceOf L hadNext; let b ← EntryCells.newEntry head a .none (rawInt L) .none pl; setField (.ref e) 1 b) Q E s := by
  have hene : e ∉ (env :: outer).filterMap (·.frame) := fun hm => by
    obtain ⟨_, hq136z⟩ := hl.mem hm; refine e1x2 (hq136z) ?_; clear hq136z; rintro o ho hnf
    rw [he] at ho; cases ho; exact hnf vs hd
  refine wpAny_bind (wpAny_frameOf_fun hfr hl hf fun h₁ hs₁ => ?_)
  refine wpAny_bind (wpAny_entryPlaceOf fun pl hpl => ?_)
  unfold EntryCells.newEntry newFields
  refine wpAny_bind (wpAny_newObj_type ?_ (hpl.sizeOk5 _ _ _ _ _))
  have he₁ : h₁.get? e = some oe := (hs₁.2.1 e hene).trans he
  have he₂ := Heap.get?_push_of_some (h := h₁) { cls := .type "traceback", dict := none, data := .fields ([head, .ref L, .none, rawInt L, .none] ++ (if pl.isEmpty then List.replicate 6 Value.none else pl)).toArray } he₁
  have hsz1 : h₁.objs.size = s.heap.objs.size := hs₁.1
  have hTe : h₁.objs.size ≠ e := Nat.ne_of_gt (Heap.lt_size he₁)
  have hd₃ := Obj.data_mapFields hd (·.setIfInBounds 1 (Value.ref h₁.objs.size))
  refine wpAny_setField he₂ hd hsz (h _ (fun b o hb hbe hbo => ?_) (fun b o hbe hbo => ?_) ?_ ?_)
  · rw [Heap.get?_update_other _ _ (Ne.symm hbe)]
    exact Heap.get?_push_of_some _ ((hs₁.2.1 b hb).trans hbo)
  · obtain ⟨sl, hs⟩ := hs₁.2.2 b o hbo
    refine ⟨sl, ?_⟩
    rw [Heap.get?_update_other _ _ (Ne.symm hbe)]
    exact Heap.get?_push_of_some _ hs
  · rw [← hsz1]
    exact Heap.get?_update_self _ he₂ (Obj.isFreed_of_fields hd₃)
  · rw [← hsz1]
    refine i2x3 _ _ ((Heap.get?_update_other _ _ (Ne.symm hTe)).trans (Heap.get?_push_size h₁ rfl)) rfl ?_
    simp only [List.size_toArray, List.length_append, List.length_cons, List.length_nil]
    omega
/-- an entry is noted, and the flight ends -/
theorem noteX {s : Shared} {τ : Vw} {outer : List Env} {E : Value → Shared → Prop} {head : Value} {hadNext : Bool} {φ : Obj → Prop} {R : Unit → Shared → Prop} (hfr : A.frames = some (env :: outer)) (hf : env.frame = some L) (g : Gd c P ((x, φ) :: σ) τ s) (f : FrIn (env :: outer) σ)
    (hφ : ∀ o, φ o → o.cls = .ref 95 ∧ o.dict = some dx ∧ ∃ vs, o.data = .fields vs ∧ 1 < vs.size)
    (h : ∀ T s', Gd c P ((T, fun o => ∃ ts, o.data = .fields ts ∧ 3 < ts.size) :: (x, IsY dx T) :: σ) τ s' → R () s') :
    wpAny (model c.prog c.w) A (do let a ← frameOf env; let pl ← entryPlaceOf L hadNext; let b ← EntryCells.newEntry head a .none (rawInt L) .none pl; setField (.ref x) 1 b) R E s := by
  refine e0x3 (g.ok.mu _ (.head _)) ?_; rintro hq137z hp ht; refine e1x2 (hq137z) ?_; clear hq137z; rintro o ho ho'
  obtain ⟨hc, hd, hq139z⟩ := hφ o ho'; refine e1x2 (hq139z) ?_; clear hq139z; rintro vs hv hz
  have fn := FrIn.fun g.ok.drop f
  refine entryX hfr fn hf ho hv hz fun h' k1 k2 k3 k4 => h s.heap.objs.size _ ⟨?_, g.gens, g.os⟩
  have fr := g.ok.fresh
  have o1 : Ok c P ((x, IsY dx s.heap.objs.size) :: σ) τ h' := by
    refine Ok.noted g.ok f k1 k2 ⟨_, k3, ?_, ?_, _, Obj.data_mapFields hv _, by simpa using hz, by simp [hz]⟩
    · exact (Obj.cls_mapFields _ _).trans hc
    · obtain ⟨oc, od, odt, osl⟩ := o
      obtain rfl : odt = _ := hv
      exact hd
  refine e2x3 (k4) ?_; rintro oT ts q1 q2 q3
  refine Ok.more o1 fr.1 fr.2.1 (fun z hz => ?_) ⟨oT, q1, ts, q2, q3⟩
  rcases List.mem_cons.mp hz with rfl | hz
  · exact fr.2.2 (x, φ) (.head _)
  · exact fr.2.2 z (.tail _ hz)
theorem flightX {s : Shared} {τ : Vw} {E : Value → Shared → Prop} {ψ : Obj → Prop} {R : Unit → Shared → Prop} (g : Gd c P ((T, ψ) :: (x, IsY dx T) :: σ) τ s) (hψ : ∀ o, ψ o → ∃ ts, o.data = .fields ts ∧ 3 < ts.size)
    (h : ∀ s', Gd c P ((T, IsTb) :: (x, IsY dx T) :: σ) τ s' → R () s') : wpAny (model c.prog c.w) A (setFlight (.ref x) none) R E s := by
  obtain ⟨⟨oT, hoT, hT⟩, _⟩ := g.ok.mu _ (.head _)
  obtain ⟨⟨o, ho, hc, hd, vs, hv, hz, h1⟩, _⟩ := g.ok.mu (x, IsY dx T) (.tail _ (.head _))
  refine e1x2 (hψ oT hT) ?_; rintro ts hts h3
  unfold setFlight
  refine wpAny_bind (wpAny_field ho hv h1 ?_)
  rw [if_pos (show (Value.ref T != Value.none) = true from by simp)]
  refine wpAny_setField hoT hts h3 (h _ ⟨?_, g.gens, g.os⟩)
  refine g.ok.update (fun b nb o e => (Heap.get?_update_other _ _ (Ne.symm nb)).trans e) ⟨_, Heap.get?_update_self _ hoT (Obj.isFreed_of_fields (Obj.data_mapFields hts _)), _, Obj.data_mapFields hts _, ?_⟩
  simp [h3]
end
end Mine
end
section
open PySem PySem.W PySem.Calls PyProof.Rows PySem.Spec PySem.SeqAt
namespace Mine
section
variable {c : Cx} {A : Around} {P : Vw} {σ : St} {E : Value → Vw → St → Prop} {Q : Value → Vw → St → Prop} {env : Env} {x dx L T : Addr} {pos : Pos} {n : Str} {v : Value}
theorem T3.sRaise (kx : KX c) {e : Expr} {Q : Flow → Vw → St → Prop} (hA : A.handled = none) (h : T3 c A (eval e env) P σ (fun v P1 σ1 => ∃ x dx, v = .ref x ∧ (x, IsX dx) ∈ σ1 ∧ E (.ref x) P1 σ1) E) : T3 c A (exec (.Raise (some e) none pos) env) P σ Q E := by
  rw [arm_exec_Raise]
  refine T3.bind (T3.standAt ?_)
  show T3 c A (raiseStmt env (some (do let v ← eval e env; PySem.standAt pos; Pure.pure v)) none) P σ Q E
  unfold raiseStmt
  refine T3.bind (T3.bind (h.conseq fun v P1 σ1 l1 h => T3.bind (T3.standAt (T3.pure ?_))))
  refine e2x3 (h) ?_; rintro x dx hr143z hm hE; subst hr143z
  refine T3.bind (T3.pure ?_)
  intro τ s g
  obtain ⟨⟨o, ho, hc, hd, a0, hf⟩, _⟩ := g.ok.mu _ hm
  have ho : s.heap.get? x = some o := ho
  have LT : Looks (model c.prog c.w) s.heap (typeOf (.ref x)) (.ref 95) := hc ▸ (Looks.ld ho).andThen .now
  have L1 : Looks (model c.prog c.w) s.heap (isType (.ref x)) false := by
    refine (Looks.ld (part := some headPart) ho).andThen ?_
    rw [hf]
    exact .now
  have L2 : Looks (model c.prog c.w) s.heap (isInstance (.ref x) (.type "BaseException")) true := by
    refine e1x3 (clsX kx) ?_; rintro cd hcl _ hmr
    exact LT.andThen (looks_mroIn g.kin (by unfold mroIn; rw [hcl, Option.bind_some, hmr]; rfl))
  have L3 : Looks (model c.prog c.w) s.heap (isExcClass (.ref x)) false := L1.andThen .now
  have L4 : Looks (model c.prog c.w) s.heap (excFromValue (.ref x) "exceptions must derive from BaseException") (.ref x) := L3.andThen (L2.andThen .now)
  have L5 : Looks (model c.prog c.w) s.heap (raisedInstance (.ref x)) (.ref x) := LT.andThen ((looks_typeIn g.kin kx.typ.1).andThen .now)
  have L6 : Looks (model c.prog c.w) s.heap (setFlight (.ref x) none) () := by
    intro A' Q' E' s' k q
    unfold setFlight
    exact wpAny_bind (wpAny_field (k _ _ ho) hf (x := .none) rfl (wpAny_pure q))
  refine wpAny_bind (wpAny_holding (L4.here (wpAny_bind (L1.here ?_))))
  refine wpAny_bind (L5.here (wpAny_bind (L6.here ?_)))
  unfold raiseNew
  refine wpAny_bind (wpAny_handled ?_)
  rw [hA]
  exact wpAny_bind (wpAny_pure (wpAny_throw ⟨P1, σ1, Le.refl _, g, hE⟩))
end
end Mine
end
section
open PySem PySem.W PySem.Calls PyProof.Rows PySem.Spec PySem.SeqAt
namespace Mine
section
variable {c : Cx} {A : Around} {P : Vw} {σ : St} {E : Value → Vw → St → Prop} {Q : Value → Vw → St → Prop} {env : Env} {x dx L T : Addr} {pos : Pos} {n : Str} {v : Value}
theorem Gd.perm {τ : Vw} {s : Shared} {σ' : St} (g : Gd c P σ τ s) (p : σ.Perm σ') : Gd c P σ' τ s := ⟨g.ok.perm p, g.gens, g.os⟩
/-- a def that raises -/
theorem C3.defX {f : Addr} {qual : Str} {params : Arguments} {body : List Stmt} {scope : Scope} {dV : Value} {args : Args} {R : Result → Vw → St → Prop} {l : List Env} (F : FnAt c f qual params body scope dV) (binds : List (Str × Value)) (hr : A.depth < recursionLimit) (hfr : A.frames = some l)
    (hbind : ∀ name doc pm cdv ct an τ s, Gd c P σ τ s → BindsTo s (fnOf name qual params body scope dV .none doc pm an cdv ct) args binds)
    (hloc : (binds.all fun x => decide (scope.names.lookup x.1 = some .local)) = true) (hcell : (scope.names.all fun x => decide (x.2 ≠ .cell)) = true) (hflag : scope.isCoroutine = false ∧ scope.isGenerator = false ∧ scope.kind = .function)
    (h : ∀ L cd, T3 c (A.deeper (mkE scope qual L f cd)) (execs body (mkE scope qual L f cd)) P ((L, NsP binds.reverse) :: σ) (Bk L fun v => R (.ok (.ret v)))
      (fun e P' σ' => ∃ x dx m σ'', e = .ref x ∧ σ'.Perm ((x, IsX (some dx)) :: (L, NsP m) :: σ'') ∧ FrIn l σ'' ∧ ∀ T, R (.error (.ref x)) P' ((T, IsTb) :: (x, IsY dx T) :: σ''))) : C3 c A (.call (.ref f) args) P σ R := fun τ s g => by
  refine e9x2 (F.ex) ?_; rintro name oc od osl doc pm cdv ct an hk hcd
  refine e0x3 (hflag) ?_; rintro h1 h2 h3
  refine codeAny_call_def (fd := fnOf name qual params body scope dV .none doc pm an cdv ct) hr (g.kin _ _ hk) rfl (c.lim.keeps g.keep) (codeRec_of g.kin hcd) rfl (hbind _ _ _ _ _ _ τ s g) (fun x hx => of_decide_eq_true (List.all_eq_true.mp hcell x hx)) (fun x hx => of_decide_eq_true (List.all_eq_true.mp hloc x hx)) (fun h₀ hns hkp => ?_) h1 h2 h3
  have fr := g.ok.fresh
  have ok : Ok c P ((s.heap.objs.size, NsP binds.reverse) :: σ) τ h₀ := by
    refine ⟨g.ok.base, fun a o e => hkp _ _ (g.ok.per a o e), fun a o e => hkp _ _ (g.ok.frm a o e), g.ok.dis, fun x hx => ?_, ?_⟩
    · rcases List.mem_cons.mp hx with rfl | hx
      · exact i0x3 (of_ns hns fun _ _ e => e) fr.1 fr.2.1
      · obtain ⟨⟨o, ho, hφ⟩, r⟩ := g.ok.mu x hx
        exact ⟨⟨o, hkp _ _ ho, hφ⟩, r⟩
    · rw [List.map_cons]
      refine List.nodup_cons.mpr ⟨fun hm => ?_, g.ok.nd⟩
      refine e1x2 (List.mem_map.mp hm) ?_; rintro x hx e
      exact fr.2.2 x hx e
  refine wpAny_mono (h s.heap.objs.size cdv τ { s with heap := h₀, toks := s.toks + binds.length } ⟨ok, g.gens, g.os⟩) (fun fl s' ⟨P', σ', l, g', q⟩ => ?_) fun e s' ⟨P', σ', l', g', x, dx, m, σ'', he, pm, fin, q⟩ => ?_
  · obtain ⟨φ, σ'', rfl, q⟩ := q
    exact ⟨P', σ'', l, ⟨g'.ok.drop, g'.gens, g'.os⟩, q⟩
  · subst he
    have g2 := g'.perm pm
    obtain ⟨⟨o, ho, hc, hd, a0, hf⟩, _⟩ := g2.ok.mu (x, IsX (some dx)) (.head _)
    unfold leaving noteFrame
    refine wpAny_bind (wpAny_bind (wpAny_field ho hf (x := .none) rfl ?_))
    rw [if_neg (by decide)]
    refine noteX (dx := dx) (outer := l) (Around.frames_deeper hfr) rfl g2 ?_ (fun o ⟨hc, hd, a0, hf⟩ => ⟨hc, hd, _, hf, by show 1 < 6; decide⟩) fun T s2 g3 => ?_
    · intro env he
      rcases List.mem_cons.mp he with rfl | he
      · refine ⟨?_, i2x2 _ m rfl (.head _)⟩
        show scope.kind ≠ .module
        rw [h3]; decide
      · obtain ⟨k1, hq154z⟩ := fin env he; refine e2x2 (hq154z) ?_; clear hq154z; rintro L2 m2 k2 k3
        exact ⟨k1, i2x2 L2 m2 k2 (.tail _ k3)⟩
    · refine flightX g3 (fun o h => h) fun s3 g4 => ?_
      refine i2x3 P' _ l' ⟨?_, g4.gens, g4.os⟩ (q T)
      exact (g4.ok.perm (List.perm_middle (l₁ := [_, _]))).drop
theorem T3.d1X {f d : Addr} {st : Stmt} {q : Str} {args : List Value} {vs : Array Value} {l : List Env} (kf : KF c) (F : FnS c f st q (.ref d)) (m : Lo) (hr : A.depth < recursionLimit) (hfr : A.frames = some l) (hd : dfltTab.lookup d = some vs)
    (hb : ∀ name doc pm cdv ct an, ∃ k, bindArgs (fnOf name q (fdP st) (fdB st) (fdS st) (.ref d) .none doc pm an cdv ct) ⟨args, []⟩ = seqItems? (.ref d) >>= k ∧ k (some vs) = Pure.pure m.reverse)
    (hk : ((m.all fun x => decide ((fdS st).names.lookup x.1 = some .local)) && ((fdS st).names.all fun x => decide (x.2 ≠ .cell)) && (!(fdS st).isCoroutine && !(fdS st).isGenerator && (fdS st).kind == .function)) = true)
    (h : ∀ L cd, T3 c (A.deeper (mkE (fdS st) q L f cd)) (execs (fdB st) (mkE (fdS st) q L f cd)) P ((L, NsP m) :: σ) (Bk L Q) (fun e P' σ' => ∃ x dx m σ'', e = .ref x ∧ σ'.Perm ((x, IsX (some dx)) :: (L, NsP m) :: σ'') ∧ FrIn l σ'' ∧ ∀ T, E (.ref x) P' ((T, IsTb) :: (x, IsY dx T) :: σ''))) : T3 c A (PySem.call (.ref f) args) P σ Q E := by
  simp only [Bool.and_eq_true, Bool.not_eq_true', beq_iff_eq] at hk
  refine e0x3 (hk) ?_; rintro ⟨h1, h2⟩ ⟨h3, h4⟩ h5
  refine T3.call (C3.defX F m.reverse hr hfr (fun name doc pm cdv ct an τ s g => by
    refine e1x2 (hb name doc pm cdv ct an) ?_; rintro k h1 h2
    refine e1x2 (kf.dflt d vs hd) ?_; rintro o ho hs
    exact BindsTo.of_defaults rfl (g.kin _ _ ho) hs h1 h2) (by rw [List.all_reverse]; exact h1) h2 ⟨h3, h4, h5⟩ fun L cd => ?_)
  rw [List.reverse_reverse]
  exact h L cd
/-- try: .. except X as n: .. (X at 95) -/
theorem T3.sTryX (kx : KX c) {l : List Env} {body suite : List Stmt} {b₀ : Stmt} {n : Str} {X : Expr} {p2 : Pos} {Q : Flow → Vw → St → Prop} (hL : env.frame = some env.locals) (hk : env.scope.kind = .function) (hn : env.kindOf n = some .local) (hfr : A.frames = some (env :: l))
    (hX : ∀ A' P1 σ1, T3 c A' (eval X env) P1 σ1 (fun v P2 σ2 => v = .ref 95 ∧ P2 = P1 ∧ σ2 = σ1) NoE)
    (h : T3 c A (execs body env) P σ (fun f P1 σ1 => f ≠ .next ∧ Q f P1 σ1) (fun e P1 σ1 => ∃ x dx T m σ2, e = .ref x ∧ σ1.Perm ((T, IsTb) :: (x, IsY dx T) :: (env.locals, NsP m) :: σ2) ∧ FrIn l σ2 ∧
      ∀ T2, T3 c (A.mark (some (.ref x))) (execs (b₀ :: suite) env) P1 ((env.locals, NsP ((n, .ref x) :: m)) :: (T2, IsTb) :: (x, IsY dx T2) :: σ2) (fun f P2 σ2 => ∃ m σ3, σ2 = (env.locals, NsP m) :: σ3 ∧ Q f P2 ((env.locals, NsP []) :: σ3)) NoE)) :
    T3 c A (exec (.Try body [.ExceptHandler (some X) (some n) (b₀ :: suite) p2] [] [] pos) env) P σ Q E := fun τ s g => by
  refine wpAny_Try_except (wpAny_mono (h τ s g) (fun f s1 ⟨P1, σ1, l1, g1, hf, q1⟩ => ?_) fun e s1 ⟨P1, σ1, l1, g1, x, dx, T, m, σ2, he, pm, fin, q⟩ => ?_)
  · cases f with
    | next => exact absurd rfl hf
    | _ => exact ⟨P1, σ1, l1, g1, q1⟩
  · subst he
    have g2 := g1.perm pm
    obtain ⟨⟨oT, hoT, ts, hts, h3⟩, _⟩ := g2.ok.mu (T, IsTb) (.head _)
    obtain ⟨⟨o, ho, hc, hd, vs, hv, hz, h1⟩, _⟩ := g2.ok.mu (x, IsY dx T) (.tail _ (.head _))
    have h3' : 3 < ts.size := (Array.getElem?_eq_some_iff.mp h3).1
    have fin2 : FrIn (env :: l) ((env.locals, NsP m) :: σ2) := fun e he => by
      rcases List.mem_cons.mp he with rfl | he
      · exact ⟨by rw [hk]; decide, i2x2 _ m hL (.head _)⟩
      · obtain ⟨k1, hq156z⟩ := fin e he; refine e2x2 (hq156z) ?_; clear hq156z; rintro L2 m2 k2 k3
        exact ⟨k1, i2x2 L2 m2 k2 (.tail _ k3)⟩
    unfold noteFrame
    rw [hL]
    refine wpAny_bind (wpAny_field ho hv h1 ?_)
    rw [if_pos (show (Value.ref T != Value.none) = true from by simp)]
    refine wpAny_bind (wpAny_field hoT hts h3 ?_)
    rw [if_neg (show ¬ ((Value.none == rawInt env.locals) = true) from by simp [rawInt])]
    refine wpAny_bind (wpAny_setField hoT hts h3' ?_)
    have g3 : Gd c P1 ((x, IsY dx T) :: (env.locals, NsP m) :: σ2) τ { s1 with heap := s1.heap.update T (Obj.mapFields (·.setIfInBounds 3 .none)) } := by
      refine ⟨(g2.ok.update (φ' := fun _ => True) (fun b nb o e => (Heap.get?_update_other _ _ (Ne.symm nb)).trans e) ⟨_, Heap.get?_update_self _ hoT (Obj.isFreed_of_fields (Obj.data_mapFields hts _)), trivial⟩).drop, g2.gens, g2.os⟩
    refine noteX (dx := dx) hfr hL g3 fin2 (fun o ⟨hc, hd, vs, hv, hz, _⟩ => ⟨hc, hd, vs, hv, hz⟩) fun T2 s2 g4 => ?_
    refine flightX g4 (fun o h => h) fun s3 g5 => ?_
    refine wpAny_handleBy_cons (codeAny_handlers_test (wpAny_mono (hX (A.mark (some (.ref x))) _ _ τ s3 g5) (fun v s4 ⟨P4, σ4, l4, g6, hv4, hP4, hσ4⟩ => ?_) fun _ _ ⟨_, _, _, _, z⟩ => z.elim)) (by intro q; cases q)
    subst hv4; subst hP4; subst hσ4
    obtain ⟨⟨o5, ho5, hc5, _⟩, _⟩ := g6.ok.mu (x, IsY dx T2) (.tail _ (.head _))
    have LT : Looks (model c.prog c.w) s4.heap (typeOf (.ref x)) (.ref 95) := hc5 ▸ (Looks.ld ho5).andThen .now
    refine (exm_one g6.kin LT kx.exm).here ?_
    refine codeAny_handlers_suite_as (flightX g6 (fun o ⟨ts, h1, h3⟩ => ⟨ts, h1, (Array.getElem?_eq_some_iff.mp h3).1⟩) fun s5 g7 => ?_)
    have hp : (env.scope.kind == .class || (env.scope.kind == .module && env.locals != env.globals)) = false := by rw [hk]; rfl
    have g8 := g7.perm (List.perm_middle (l₁ := [_, _]))
    refine wpAny_mono (T3.st (v := .ref x) (E := NoE) (Q := fun _ P5 σ5 => P5 = P4 ∧ σ5 = (env.locals, NsP ((n, .ref x) :: m)) :: (T2, IsTb) :: (x, IsY dx T2) :: σ2) hn ⟨rfl, rfl⟩ hp τ s5 g8) (fun _ s6 ⟨P6, σ6, l6, g9, e6, e7⟩ => ?_) fun _ _ ⟨_, _, _, _, z⟩ => z.elim
    subst e6; subst e7
    refine wpAny_mono (q T2 τ s6 g9) (fun f s7 ⟨P7, σ7, l7, g10, m7, σ8, e7, q7⟩ => ?_) fun _ _ ⟨_, _, _, _, z⟩ => z.elim
    subst e7
    refine e1x2 (g10.ns) ?_; rintro mf hns _
    refine wpAny_nameGoes hn hns hp fun h' m' hn' hs => ?_
    refine i2x3 P7 _ (l1.trans (l6.trans l7)) ⟨?_, g10.gens, g10.os⟩ q7
    exact g10.ok.update (fun b nb o e => (hs.2 b nb).trans e) (of_ns hn' fun _ _ e => nomatch e)
end
end Mine
end
section
open PySem PySem.W PySem.Calls PyProof.Rows PySem.Spec PySem.SeqAt
namespace Mine
/-! sums, dict displays, a list against the empty one -/
noncomputable def prs : List (Option Expr) → List Expr → Env → Pos → List (Sem Value × Sem Value)
  | some k :: ks, v :: vs, env, pos => (eval k env, do let x ← eval v env; PySem.standAt pos; Pure.pure x) :: prs ks vs env pos
  | _, _, _, _ => []
section
variable {c : Cx} {A : Around} {P : Vw} {σ : St} {E : Value → Vw → St → Prop} {Q : Value → Vw → St → Prop} {env : Env} {a b l L : Addr} {pos : Pos} {xs : List Value} {m : Lo}
theorem T3.lSum {ns : List Int} (hA : A.handled = none) (hm : (l, IsLi xs) ∈ (L, NsP m) :: σ) (hi : IntsAre xs ns) (h : ∀ k, Q (.int ns.sum k) P ((L, NsP m) :: σ)) : T3 c A (PySem.call (.builtin "sum") [.ref l]) P ((L, NsP m) :: σ) Q E := fun τ s g => by
  refine e1x3 (fr_in g) ?_; rintro mf F N back
  obtain ⟨n, ho⟩ := liAt g hm
  exact LSm.sum_ints F N hA ⟨_, ho, rfl, n, rfl⟩ hi fun h' tk t' F' N' => en (back _ _ F' N') (h _)
theorem ints_reads {h : Heap} {xs : List Value} {ns : List Int} (hi : IntsAre xs ns) : ∃ as, ReadsAll h xs (ns.map PyData.int) as := by
  induction hi with
  | nil => exact ⟨_, .nil⟩
  | cons i k r ih => obtain ⟨as, ih⟩ := ih; exact ⟨_, .cons (.int i k) ih⟩
theorem ints_lay : ∀ ns : List Int, PyData.canLayAll0 (ns.map PyData.int) = true
  | [] => rfl
  | n :: ns => by
    rw [List.map_cons, PyData.canLayAll0, ints_lay ns]; rfl
theorem T3.liNe {ns : List Int} (h1 : (a, IsLi xs) ∈ σ) (h2 : (b, IsLi []) ∈ σ) (hi : IntsAre xs ns) (hu : A.units + 64 < cLine) (h : Q (.bool (!xs.isEmpty)) P σ) : T3 c A (compareOp .NotEq (.ref a) (.ref b)) P σ Q E := fun τ s g => by
  obtain ⟨n1, ho1⟩ := liAt g h1
  obtain ⟨n2, ho2⟩ := liAt g h2
  obtain ⟨as, r1⟩ := ints_reads (h := s.heap) hi
  refine compareNe_reads (Reads.list ho1 rfl rfl r1) (Reads.list (xs := []) ho2 rfl rfl .nil) (ints_lay ns) rfl ?_ ?_
  · have : min (PyData.list (ns.map PyData.int)).depth (PyData.list []).depth ≤ (PyData.list []).depth := Nat.min_le_right _ _
    have h3 : (PyData.list []).depth ≤ 64 := by decide
    omega
  · have e : PyData.eqv (PyData.list (ns.map PyData.int)) (PyData.list []) = xs.isEmpty := by
      cases hi with
      | nil => rfl
      | cons i k r => rfl
    rw [e]
    exact en g h
theorem T3.ep0 {Q : List (Value × Value) → Vw → St → Prop} (h : Q [] P σ) : T3 c A (evalPairs []) P σ Q E := T3.pure h
theorem T3.ep1 {k v : Sem Value} {rest : List (Sem Value × Sem Value)} {Q : List (Value × Value) → Vw → St → Prop}
    (h : T3 c A k P σ (fun kv P1 σ1 => T3 c A v P1 σ1 (fun vv P2 σ2 => T3 c A (evalPairs rest) P2 σ2 (fun vs P3 σ3 => Q ((kv, vv) :: vs) P3 σ3) E) E) E) : T3 c A (evalPairs ((k, v) :: rest)) P σ Q E := by
  rw [evalPairs]
  exact T3.bind (h.conseq fun kv _ _ _ h => T3.bind (T3.holding (h.conseq fun vv _ _ _ h => T3.bind (T3.holding (h.conseq fun vs _ _ _ h => T3.pure h)))))
theorem T3.dictN {keys : List (Option Expr)} {values : List Expr} {p : Addr × (Obj → Prop)}
    (hshape : (evalEachOpt keys env).zip ((evalEach values env).map fun v => do let x ← v; PySem.standAt pos; Pure.pure x) = (prs keys values env pos).map fun p => (some p.1, p.2)) (h0 : prs keys values env pos ≠ []) (hlen : (prs keys values env pos).length ≤ 15)
    (h : T3 c A (evalPairs (prs keys values env pos)) P (p :: σ) (fun vs P1 σ1 => ∃ kvs p' σ2, σ1 = p' :: σ2 ∧ Carries (strKind c.prog c.w) vs kvs ∧ ∀ d, d ≠ sysModules → Q (.ref d) P1 (p' :: (d, IsD c (merged [] kvs)) :: σ2)) NoE) : T3 c A (eval (.Dict keys values pos) env) P (p :: σ) Q E := fun τ s g => by
  have hfm := fresh_mod g
  have hnew : IsD c [] { cls := .type "dict", data := .dict #[] } := by
    refine e1x2 (Heap.dictOf_iff.mp (Heap.DictOf.new (knd := strKind c.prog c.w) s.heap)) ?_; rintro o ho hd
    rw [Heap.get?_push_size _ rfl] at ho
    exact (Option.some.inj ho) ▸ hd
  have g1 := g.ok.pushM (o := { cls := .type "dict", data := .dict #[] }) (φ := IsD c []) rfl hnew
  refine e1x2 (frame_in (σ₁ := p :: σ) (σ₂ := [(s.heap.objs.size, IsD c [])]) (g1.perm (List.perm_append_comm (l₁ := [_])))) ?_; rintro τ' k1 k2
  refine wpAny_Dict_pairs (knd := strKind c.prog c.w) hshape h0 hlen (wpAny_mono (h τ' _ ⟨k1, g.gens, g.os⟩) (fun vs s1 ⟨P1, σ1, l1, g2, kvs, p', σ2, e, hc, q⟩ => ?_) fun _ _ ⟨_, _, _, _, z⟩ => z.elim)
  subst e
  have o2 := k2 _ _ _ g2.ok
  have g3 : Gd c P1 ((p' :: σ2) ++ [(s.heap.objs.size, IsD c [])]) τ s1 := ⟨o2, g2.gens, g2.os⟩
  refine i1x3 kvs hc (dAt g3 (List.mem_append_right _ (.head _))) (fun h' hm hs => ?_)
  refine i2x3 P1 _ l1 ⟨?_, g2.gens, g2.os⟩ (q _ hfm)
  have o3 := Ok.updAt (pre := p' :: σ2) (σ := []) (φ' := IsD c (merged [] kvs)) o2 (fun b nb o e => (hs.2 b nb).trans e) (Heap.dictOf_iff.mp hm)
  exact o3.perm ((List.perm_append_comm (l₁ := σ2) (l₂ := [_])).cons _)
end
end Mine
end
section
open PySem PySem.W PySem.Calls PyProof.Rows
namespace Mine
theorem fnS_of {c : Cx} {f : Addr} {st : Stmt} {q : Str} {dV : Value} (a : parts3 c.K f = some (fdP st, .stmts (fdB st), fdS st)) (b : shellB c.K f q dV = true) : FnS c f st q dV := by
  unfold parts3 at a
  unfold shellB at b
  split at a
  · rename_i oc od fd osl e
    rw [e] at b
    simp only [Bool.and_eq_true, beq_iff_eq] at b
    obtain ⟨⟨⟨⟨⟨⟨⟨⟨b1, b2⟩, b3⟩, b4⟩, b5⟩, b6⟩, b7⟩, b8⟩, b9⟩ := b
    obtain ⟨n, qn, pr, bd, sc, gl, cl, df, kd, doc, pm, an, cd, ct, bl⟩ := fd
    simp only [Option.some.injEq, Prod.mk.injEq] at a
    obtain ⟨a1, a2, a3⟩ := a
    dsimp only at a1 a2 a3 b1 b2 b3 b4 b5 b6 b7
    have b3 : cl = [] := List.isEmpty_iff.mp b3
    subst a1 a2 a3 b1 b2 b3 b4 b5 b6
    exact ⟨⟨n, oc, od, osl, doc, pm, cd, ct, an, e, b7⟩, b8, b9⟩
  · cases a
theorem of_lookup {α β : Type} [BEq α] [LawfulBEq α] {x : α} {v : β} : ∀ {l : List (α × β)}, l.lookup x = some v → (x, v) ∈ l
  | [], e => by cases e
  | (y, u) :: r, e => by
    simp only [List.lookup] at e
    split at e
    · rename_i q; cases e; rw [beq_iff_eq.mp q]; exact .head _
    · exact .tail _ (of_lookup e)
theorem all_of {α : Type} {p : α → Bool} {l : List α} (e : l.all p = true) {x : α} (h : x ∈ l) : p x = true := List.all_eq_true.mp e x h
theorem clsB_of {K : Frag} {C : Addr} (b : clsB K C = true) : (∀ c : Cx, c.K = K → Cls c C) ∧ (makesIn K C = true ∧ keepIn K (.ref C) = true) ∧ subIn K (.ref C) (.type "int") = some false ∧ findIn K (.ref C) "__class__" = some (some (.builtin "object.__class__")) ∧ mroIn K C (.type "object") = some true := by
  simp only [clsB, Bool.and_eq_true, beq_iff_eq] at b
  obtain ⟨⟨⟨⟨⟨⟨⟨⟨⟨b1, b2⟩, b3⟩, b4⟩, b5⟩, b6⟩, b7⟩, b8⟩, b9⟩, b0⟩ := b
  exact ⟨fun c e => by subst e; exact ⟨b1, b2, b3, b4, b5⟩, ⟨b6, b7⟩, b8, b9, b0⟩
theorem statB_of {K : Frag} {C : Addr} {n : Str} {s f : Addr} (b : statB K C n s f = true) : findCls K (.ref C) (.type "type") n = some (.get (.builtin "staticmethod.__get__") (.ref s) .none (.ref C)) ∧ (recIn K s "staticmethod").bind (·.head?) = some (.ref f) ∧ readsIn K C (.type "type") = true ∧ specialIn K (.ref C) "__getattribute__" = some (some (.builtin "type.__getattribute__")) := by
  simp only [statB, Bool.and_eq_true, beq_iff_eq] at b
  obtain ⟨⟨⟨b1, b2⟩, b3⟩, b4⟩ := b
  refine ⟨?_, b2, b3, b4⟩
  split at b1
  · rename_i g a o t e
    simp only [Bool.and_eq_true, beq_iff_eq] at b1
    obtain ⟨⟨⟨rfl, rfl⟩, rfl⟩, rfl⟩ := b1
    exact e
  · cases b1
theorem seqB_of {K : Frag} {a : Addr} {vs : Array Value} (b : seqB K a vs = true) : ∃ o, K.lookup a = some o ∧ o.data = .seq vs 0 := by
  unfold seqB at b
  split at b
  · rename_i ys n sl e
    simp only [Bool.and_eq_true, beq_iff_eq] at b
    obtain ⟨b1, rfl⟩ := b
    obtain rfl : ys = vs := Array.toList_inj.mp b1
    exact ⟨_, e, rfl⟩
  · cases b
theorem excB_of {K : Frag} (b : excB K = true) : ∃ nm q N bs sn sub ab col dd k0 k1 k2 k3 k5, K.lookup 95 = some (excClassObj nm q 95 N bs bmX true sn sub ab col dd k0 k1 k2 k3 k5 "Exception.__new__") := by
  unfold excB at b
  split at b
  · rename_i oc dd cd sl e
    simp only [Bool.and_eq_true, beq_iff_eq, Bool.not_eq_true'] at b
    obtain ⟨⟨⟨⟨b1, b2⟩, b3⟩, b4⟩, b5⟩ := b
    split at b5
    · rename_i k0 k1 k2 k3 k4 k5 es
      obtain ⟨nm, bs, mro, N, q, hd, sn, sub, ab, col, del⟩ := cd
      dsimp only at b2 b3 b4
      obtain rfl : sl = #[k0, k1, k2, k3, some (.builtin "Exception.__new__"), k5] := Array.toList_inj.mp (by rw [es, beq_iff_eq.mp b5])
      subst b1 b2 b3 b4
      exact ⟨nm, q, N, bs, sn, sub, ab, col, dd, k0, k1, k2, k3, k5, e⟩
    · cases b5
  · cases b
theorem of_contains {α : Type} [BEq α] [LawfulBEq α] {l : List α} {x : α} (e : l.contains x = true) : x ∈ l := List.contains_iff_mem.mp e
theorem factL_of {K : Frag} (b : factB K = true) : ∀ x ∈ factL K, x = true := fun x h => List.all_eq_true.mp b x h

section
variable {c : Cx} (hp : c.prog = pw) (b : factB c.K = true) (hf : fnsOf c.K = fnsGood)
include b
theorem fact_at (i : Nat) {x : Bool} (e : (factL c.K)[i]? = some x) : x = true := factL_of b x (List.mem_of_getElem? e)
include hf in
theorem fnS_at {f : Addr} {st : Stmt} {q : Str} {dV : Value} (i : Nat) (e : fnTab[i]? = some (f, st, q, dV)) : FnS c f st q dV :=
  have m := List.mem_of_getElem? e
  fnS_of (List.map_inj_left.mp hf _ m) (all_of (p := fun p : Addr × Stmt × Str × Value => shellB c.K p.1 p.2.2.1 p.2.2.2) (l := fnTab) (x := (f, st, q, dV)) (fact_at b 9 rfl) m)
include hp hf in
theorem KF.of : KF c where
  prog := hp
  glob := fun x v e => beq_iff_eq.mp (all_of (fact_at b 0 rfl) (of_lookup e))
  noglob := fun x e => beq_iff_eq.mp (all_of (fact_at b 1 rfl) (of_contains e))
  cls := fun C e => (clsB_of (all_of (fact_at b 2 rfl) (of_contains e))).1 c rfl
  mkC := fun C e => (clsB_of (all_of (fact_at b 2 rfl) (of_contains e))).2.1
  inst := fun C n e => beq_iff_eq.mp (Bool.and_eq_true_iff.mp (all_of (fact_at b 3 rfl) (of_contains e))).1
  meth := fun C n f e => beq_iff_eq.mp (all_of (fact_at b 4 rfl) (of_lookup e))
  const := fun C n v e => have z := Bool.and_eq_true_iff.mp (all_of (fact_at b 5 rfl) (of_lookup e)); ⟨beq_iff_eq.mp z.1, beq_iff_eq.mp z.2⟩
  stat := fun C n s f e => statB_of (show statB c.K (C, n).1 (C, n).2 (s, f).1 (s, f).2 = true from all_of (p := fun p : (Addr × Str) × (Addr × Addr) => statB c.K p.1.1 p.1.2 p.2.1 p.2.2) (l := statTab) (x := ((C, n), (s, f))) (fact_at b 6 rfl) (of_lookup e))
  fn := fun f e => Bool.and_eq_true_iff.mp (all_of (fact_at b 7 rfl) (of_contains e))
  dflt := fun a vs e => seqB_of (all_of (p := fun p : Addr × Array Value => seqB c.K p.1 p.2) (l := dfltTab) (x := (a, vs)) (fact_at b 8 rfl) (of_lookup e))
  f_Position___init__ := fnS_at b hf 0 rfl
  f_position_of := fnS_at b hf 1 rfl
  f_ToolError___init__ := fnS_at b hf 2 rfl
  f_Cursor___init__ := fnS_at b hf 3 rfl
  f_Cursor_is_done := fnS_at b hf 4 rfl
  f_Cursor_peek := fnS_at b hf 5 rfl
  f_Cursor_starts := fnS_at b hf 6 rfl
  f_Cursor_take := fnS_at b hf 7 rfl
  f_Cursor_skip := fnS_at b hf 8 rfl
  f_Cursor_take_while := fnS_at b hf 9 rfl
  f_Cursor_name := fnS_at b hf 10 rfl
  f_Cursor_quoted := fnS_at b hf 11 rfl
  f_escaped_sign := fnS_at b hf 12 rfl
  f_CharSet___init__ := fnS_at b hf 13 rfl
  f_CharSet_dot := fnS_at b hf 14 rfl
  f_CharSet_of := fnS_at b hf 15 rfl
  f_CharSet_span := fnS_at b hf 16 rfl
  f_CharSet_made := fnS_at b hf 17 rfl
  f_CharSet_size := fnS_at b hf 18 rfl
  f_CharSet_least := fnS_at b hf 19 rfl
  f_CharSet_same := fnS_at b hf 20 rfl
  f_CharSet_key := fnS_at b hf 21 rfl
  f_Node_told := fnS_at b hf 22 rfl
  f_Chars___init__ := fnS_at b hf 23 rfl
  f_Chars_told := fnS_at b hf 24 rfl
  f_Pair___init__ := fnS_at b hf 25 rfl
  f_Pair_told := fnS_at b hf 26 rfl
  f_Loop___init__ := fnS_at b hf 27 rfl
  f_Loop_told := fnS_at b hf 28 rfl
  f_spine := fnS_at b hf 29 rfl
  f_bracket_levels := fnS_at b hf 30 rfl
  f_cat_all := fnS_at b hf 31 rfl
  f_Pattern___init__ := fnS_at b hf 32 rfl
  f_Pattern_told := fnS_at b hf 33 rfl
  f_RegexReader___init__ := fnS_at b hf 34 rfl
  f_RegexReader_failed := fnS_at b hf 35 rfl
  f_RegexReader_is_over := fnS_at b hf 36 rfl
  f_RegexReader_is_stop := fnS_at b hf 37 rfl
  f_RegexReader_choice := fnS_at b hf 38 rfl
  f_RegexReader_branch := fnS_at b hf 39 rfl
  f_RegexReader_looped := fnS_at b hf 40 rfl
  f_RegexReader_single := fnS_at b hf 41 rfl
  f_RegexReader_code_of := fnS_at b hf 42 rfl
  f_RegexReader_quoted := fnS_at b hf 43 rfl
  f_RegexReader_defined := fnS_at b hf 44 rfl
  f_read_regex := fnS_at b hf 45 rfl
  f_read_pattern := fnS_at b hf 46 rfl
  f_show_sign := fnS_at b hf 47 rfl
  f_show_chars := fnS_at b hf 48 rfl
  f_show_loop := fnS_at b hf 49 rfl
  f_show_at := fnS_at b hf 50 rfl
  f_show_regex := fnS_at b hf 51 rfl
  f_show_pattern := fnS_at b hf 52 rfl
  f__law_vial := fnS_at b hf 53 rfl
  f__law_drop := fnS_at b hf 54 rfl
  f__law_sign := fnS_at b hf 55 rfl
  f__law_base := fnS_at b hf 56 rfl
  f__law_row := fnS_at b hf 57 rfl
  f__law_needed := fnS_at b hf 58 rfl
  f__law_heard := fnS_at b hf 59 rfl
  f__law_looped := fnS_at b hf 60 rfl
  f__law_wrapped := fnS_at b hf 61 rfl
  f__law_is_flat := fnS_at b hf 62 rfl
  f__law_depth := fnS_at b hf 63 rfl
  f__law_pattern := fnS_at b hf 64 rfl
  f_law := fnS_at b hf 65 rfl
  taker := fun C n e => beq_iff_eq.mp (Bool.and_eq_true_iff.mp (all_of (fact_at b 3 rfl) (of_contains e))).2
  noinit := beq_iff_eq.mp (fact_at b 10 rfl)
  loopT := fun C e => all_of (fact_at b 11 rfl) (of_contains e)
  loopF := fun C e => beq_iff_eq.mp (all_of (fact_at b 12 rfl) (of_contains e))
  loopC := by
    have z := fact_at b 13 rfl
    simp only [Bool.and_eq_true, beq_iff_eq] at z
    exact ⟨z.1.1, z.1.2, z.2⟩
  intF := fun C e => (clsB_of (all_of (fact_at b 2 rfl) (of_contains e))).2.2.1
theorem KG.of : KG c where
  klass := fun C e => (clsB_of (all_of (fact_at b 2 rfl) (of_contains e))).2.2.2
  gs := by
    have z := fact_at b 14 rfl
    simp only [Bool.and_eq_true, beq_iff_eq] at z
    exact z.1.1
  tk := by
    have z := fact_at b 14 rfl
    simp only [Bool.and_eq_true, beq_iff_eq] at z
    exact z.1.2
  intC := by
    have z := fact_at b 14 rfl
    simp only [Bool.and_eq_true, beq_iff_eq] at z
    exact z.2
theorem KX.of : KX c := by
  have z := fact_at b 16 rfl
  simp only [xB, Bool.and_eq_true, beq_iff_eq] at z
  obtain ⟨⟨⟨⟨⟨⟨⟨⟨⟨⟨⟨⟨⟨⟨z1, z2⟩, z3⟩, z4⟩, z5⟩, z6⟩, z7⟩, z8⟩, z9⟩, z10⟩, z11⟩, z12⟩, z14⟩, z15⟩, z16⟩ := z
  refine ⟨excB_of (fact_at b 15 rfl), z1, z2, z3, z4, ⟨z5, z6⟩, z7, ⟨z8, z9⟩, z10, z11, ?_, z14, z15, z16⟩
  split at z12
  · rename_i v e
    rw [e, beq_iff_eq.mp z12]
  · cases z12
end
end Mine
end
section
open PySem PySem.W PySem.Calls PyProof.Rows
set_option maxHeartbeats 4000000
namespace Mine
theorem lit {n m : Nat} (h : Nat.ble n m = true) : n ≤ m := Nat.le_of_ble_eq_true h
section
variable {c : Cx} {A : Around} {P : Vw} {σ : St} {E : Value → Vw → St → Prop} {env : Env} {Q : Value → Vw → St → Prop} {pos : Pos}
theorem Le.ap {P P' : Vw} {a : Addr} {o : Obj} (l : Le P P') (h : P a = some o) : P' a = some o := l a o h
theorem T3.nmL {x : Str} {m : Lo} {v : Value} (hd : (x == ("__debug__" : Str)) = false) (hk : env.scope.kind = .function) (hl : env.kindOf x = some .local) (hv : m.lookup x = some v) (h : Q v P ((env.locals, NsP m) :: σ)) :
    T3 c A (eval (.Name x pos) env) P ((env.locals, NsP m) :: σ) Q E := T3.nm hd (T3.ld hk hl hv h)
theorem T3.nmG {x : Str} {v : Value} (kf : KF c) (he : env.globals = mainGlobals) (hk : env.scope.kind = .function) (hx : env.kindOf x = some .globalImplicit) (e : globTab.lookup x = some v) (hd : (x == ("__debug__" : Str)) = false) (h : Q v P σ) :
    T3 c A (eval (.Name x pos) env) P σ Q E := T3.gl he hk hx (kf.glob _ _ e) h hd
theorem T3.nmB {x : Str} {v : Value} (kf : KF c) (he : env.globals = mainGlobals) (hb : env.builtins = builtinsNs) (hk : env.scope.kind = .function) (hx : env.kindOf x = some .globalImplicit) (e : noGlob.contains x = true) (hv : bootBuiltins x = some v) (hn : x ≠ "__name__") (hd : (x == ("__debug__" : Str)) = false) (h : Q v P σ) :
    T3 c A (eval (.Name x pos) env) P σ Q E := T3.bi he hb hk hx (kf.noglob _ e) hv hn h hd
/-- a method of an object whose fields stand in a mutable dict -/
theorem T3.mM {x C dx f : Addr} {φ : Obj → Prop} {n : Str} {es : List Expr} {pl : Sem Bool} {p2 : Pos} (kf : KF c) (hx : P x = some (instObj C dx)) (hm : (dx, φ) ∈ σ) (hC : clsTab.contains C = true) (hf : methTab.lookup (C, n) = some f) (hfn : fnList.contains f = true)
    (hl : ∀ o, φ o → ∃ es k, o = dictOf es k ∧ getL n es = some none)
    (h : T3 c A (PySem.callWith p2 (.ref f) [.ref x] (argTs es env) []) P σ Q E) : T3 c A (getMethod (.ref x) n pl) P σ (kCm2 c A env E p2 es Q) E :=
  T3.methM hx hm (kf.cls C hC) (kf.meth _ _ _ hf) (kf.fn f hfn).2 hl h
theorem T3.mI {x C dx f : Addr} {n : Str} {ds : List DictEntry} {k : Nat} {es : List Expr} {pl : Sem Bool} {p2 : Pos} (kf : KF c) (hx : P x = some (instObj C dx)) (hd : P dx = some (dictOf ds k)) (hC : clsTab.contains C = true) (hf : methTab.lookup (C, n) = some f) (hfn : fnList.contains f = true)
    (hl : getL n ds = some none)
    (h : T3 c A (PySem.callWith p2 (.ref f) [.ref x] (argTs es env) []) P σ Q E) : T3 c A (getMethod (.ref x) n pl) P σ (kCm2 c A env E p2 es Q) E :=
  T3.methI hx hd (kf.cls C hC) (kf.meth _ _ _ hf) (kf.fn f hfn).2 hl h
/-- a call of a def, its arguments to come -/
theorem T3.cw00 {f : Addr} (kf : KF c) (hfn : fnList.contains f = true) (h : T3 c A (PySem.call (.ref f) []) P σ Q E) : T3 c A (PySem.callWith pos (.ref f) [] (argTs [] env) []) P σ Q E :=
  T3.callWith0 (.inl (kf.fn f hfn).1) h
theorem T3.cw0 {f : Addr} {e : Expr} {rest : List Expr} (kf : KF c) (hfn : fnList.contains f = true) (h : T3 c A (spliced (argTs (e :: rest) env)) P σ (kCl c A E (.ref f) Q) E) : T3 c A (PySem.callWith pos (.ref f) [] (argTs (e :: rest) env) []) P σ Q E :=
  T3.callWith (.inl (kf.fn f hfn).1) h
theorem T3.cw10 {f : Addr} {o : Value} (kf : KF c) (hfn : fnList.contains f = true) (h : T3 c A (PySem.call (.ref f) [o]) P σ Q E) : T3 c A (PySem.callWith pos (.ref f) [o] (argTs [] env) []) P σ Q E :=
  T3.callWith0 (.inl (kf.fn f hfn).1) h
theorem T3.cw1 {f : Addr} {o : Value} {e : Expr} {rest : List Expr} (kf : KF c) (hfn : fnList.contains f = true) (h : T3 c A (spliced (argTs (e :: rest) env)) P σ (kCl1 c A E (.ref f) o Q) E) : T3 c A (PySem.callWith pos (.ref f) [o] (argTs (e :: rest) env) []) P σ Q E :=
  T3.callWith (.inl (kf.fn f hfn).1) h
theorem T3.cwC0 {C : Addr} (kf : KF c) (hC : clsTab.contains C = true) (h : T3 c A (PySem.call (.ref C) []) P σ Q E) : T3 c A (PySem.callWith pos (.ref C) [] (argTs [] env) []) P σ Q E :=
  T3.callWith0 (.inl (kf.mkC C hC).2) h
theorem T3.cwC {C : Addr} {e : Expr} {rest : List Expr} (kf : KF c) (hC : clsTab.contains C = true) (h : T3 c A (spliced (argTs (e :: rest) env)) P σ (kCl c A E (.ref C) Q) E) : T3 c A (PySem.callWith pos (.ref C) [] (argTs (e :: rest) env) []) P σ Q E :=
  T3.callWith (.inl (kf.mkC C hC).2) h
theorem T3.cwB {i : String} {e : Expr} {rest : List Expr} (h : T3 c A (spliced (argTs (e :: rest) env)) P σ (kCl c A E (.builtin i) Q) E) : T3 c A (PySem.callWith pos (.builtin i) [] (argTs (e :: rest) env) []) P σ Q E :=
  T3.callWith (.inr (.inl ⟨i, rfl⟩)) h
theorem T3.cwB1 {i : String} {o : Value} {e : Expr} {rest : List Expr} (h : T3 c A (spliced (argTs (e :: rest) env)) P σ (kCl1 c A E (.builtin i) o Q) E) : T3 c A (PySem.callWith pos (.builtin i) [o] (argTs (e :: rest) env) []) P σ Q E :=
  T3.callWith (.inr (.inl ⟨i, rfl⟩)) h
theorem T3.cwB10 {i : String} {o : Value} (h : T3 c A (PySem.call (.builtin i) [o]) P σ Q E) : T3 c A (PySem.callWith pos (.builtin i) [o] (argTs [] env) []) P σ Q E :=
  T3.callWith0 (.inr (.inl ⟨i, rfl⟩)) h
theorem T3.cwT {i : String} {e : Expr} {rest : List Expr} (h : T3 c A (spliced (argTs (e :: rest) env)) P σ (kCl c A E (.type i) Q) E) : T3 c A (PySem.callWith pos (.type i) [] (argTs (e :: rest) env) []) P σ Q E :=
  T3.callWith (.inr (.inr ⟨i, rfl⟩)) h
/-- frames: a contract upon a part of what is mutable -/
theorem T3.fr0 {α : Type} {t : Sem α} {Q₁ Q : α → Vw → St → Prop} (h : T3 c A t P [] Q₁ NoE) (k : ∀ a P', Le P P' → Q₁ a P' [] → Q a P' σ) (k2 : ∀ a P' σ', Q₁ a P' σ' → σ' = []) : T3 c A t P σ Q E :=
  T3.frame (σ₁ := []) (σ₂ := σ) (List.Perm.refl _) h (fun σ' => σ' ++ σ) (fun _ => List.Perm.refl _) (fun a P' σ' l q => by obtain rfl := k2 _ _ _ q; exact k a P' l q) fun _ _ _ _ z => z.elim
theorem T3.fr1 {α : Type} {t : Sem α} {x y : Addr × (Obj → Prop)} {Q₁ Q : α → Vw → St → Prop} (h : T3 c A t P [y] Q₁ NoE) (k : ∀ a P' σ', Le P P' → Q₁ a P' σ' → Q a P' (x :: (σ' ++ σ))) : T3 c A t P (x :: y :: σ) Q E :=
  T3.frame (σ₁ := [y]) (σ₂ := x :: σ) (List.Perm.swap ..) h (fun σ' => x :: (σ' ++ σ)) (fun σ' => List.perm_middle) k fun _ _ _ _ z => z.elim
theorem T3.fr2 {α : Type} {t : Sem α} {x y z : Addr × (Obj → Prop)} {Q₁ Q : α → Vw → St → Prop} (h : T3 c A t P [y, z] Q₁ NoE) (k : ∀ a P' σ', Le P P' → Q₁ a P' σ' → Q a P' (x :: (σ' ++ σ))) : T3 c A t P (x :: y :: z :: σ) Q E :=
  T3.frame (σ₁ := [y, z]) (σ₂ := x :: σ) ((List.Perm.swap ..).trans ((List.Perm.swap ..).cons _)) h (fun σ' => x :: (σ' ++ σ)) (fun σ' => List.perm_middle) k fun _ _ _ _ z => z.elim
end

/-- entering a def of the text: the locals, the last first -/
noncomputable def defOk (sc : Scope) (m : Lo) : Bool := (m.all fun x => decide (sc.names.lookup x.1 = some .local)) && (sc.names.all fun x => decide (x.2 ≠ .cell)) && (!sc.isCoroutine && !sc.isGenerator && sc.kind == .function)
section
variable {c : Cx} {A : Around} {P : Vw} {σ : St} {E : Value → Vw → St → Prop} {Q : Value → Vw → St → Prop}
theorem C3.dA {f : Addr} {st : Stmt} {q : Str} {dV : Value} {args : List Value} {R : Result → Vw → St → Prop} (F : FnS c f st q dV) (m : Lo) (hr : A.depth < recursionLimit)
    (hb : ∀ name doc pm cdv ct an τ s, Gd c P σ τ s → BindsTo s (fnOf name q (fdP st) (fdB st) (fdS st) dV .none doc pm an cdv ct) ⟨args, []⟩ m.reverse) (hk : defOk (fdS st) m = true)
    (h : ∀ L cd, T3 c (A.deeper (mkE (fdS st) q L f cd)) (execs (fdB st) (mkE (fdS st) q L f cd)) P ((L, NsP m) :: σ) (Bk L fun v => R (.ok (.ret v))) NoE) : C3 c A (.call (.ref f) ⟨args, []⟩) P σ R := by
  simp only [defOk, Bool.and_eq_true, Bool.not_eq_true', beq_iff_eq] at hk
  obtain ⟨⟨h1, h2⟩, ⟨h3, h4⟩, h5⟩ := hk
  refine C3.def F m.reverse hr hb (by rw [List.all_reverse]; exact h1) h2 ⟨h3, h4, h5⟩ fun L cd => ?_
  rw [List.reverse_reverse]
  exact h L cd
theorem C3.d0 {f : Addr} {st : Stmt} {q : Str} {args : List Value} (F : FnS c f st q .none) (m : Lo) (hr : A.depth < recursionLimit)
    (hb : ∀ name doc pm cdv ct an, bindArgs (fnOf name q (fdP st) (fdB st) (fdS st) .none .none doc pm an cdv ct) ⟨args, []⟩ = Pure.pure m.reverse) (hk : defOk (fdS st) m = true)
    (h : ∀ L cd, T3 c (A.deeper (mkE (fdS st) q L f cd)) (execs (fdB st) (mkE (fdS st) q L f cd)) P ((L, NsP m) :: σ) (Bk L Q) NoE) : C3 c A (.call (.ref f) ⟨args, []⟩) P σ (Ret Q E) :=
  C3.dA F m hr (fun _ _ _ _ _ _ _ _ _ => BindsTo.of_eq (hb ..)) hk h
theorem C3.d1 {f d : Addr} {st : Stmt} {q : Str} {args : List Value} {vs : Array Value} (kf : KF c) (F : FnS c f st q (.ref d)) (m : Lo) (hr : A.depth < recursionLimit) (hd : dfltTab.lookup d = some vs)
    (hb : ∀ name doc pm cdv ct an, ∃ k, bindArgs (fnOf name q (fdP st) (fdB st) (fdS st) (.ref d) .none doc pm an cdv ct) ⟨args, []⟩ = seqItems? (.ref d) >>= k ∧ k (some vs) = Pure.pure m.reverse) (hk : defOk (fdS st) m = true)
    (h : ∀ L cd, T3 c (A.deeper (mkE (fdS st) q L f cd)) (execs (fdB st) (mkE (fdS st) q L f cd)) P ((L, NsP m) :: σ) (Bk L Q) NoE) : C3 c A (.call (.ref f) ⟨args, []⟩) P σ (Ret Q E) :=
  C3.dA F m hr (fun name doc pm cdv ct an τ s g => by
    obtain ⟨k, h1, h2⟩ := hb name doc pm cdv ct an
    obtain ⟨o, ho, hs⟩ := kf.dflt d vs hd
    exact BindsTo.of_defaults rfl (g.kin _ _ ho) hs h1 h2) hk h
theorem T3.d0 {f : Addr} {st : Stmt} {q : Str} {args : List Value} (F : FnS c f st q .none) (m : Lo) (hr : A.depth < recursionLimit)
    (hb : ∀ name doc pm cdv ct an, bindArgs (fnOf name q (fdP st) (fdB st) (fdS st) .none .none doc pm an cdv ct) ⟨args, []⟩ = Pure.pure m.reverse) (hk : defOk (fdS st) m = true)
    (h : ∀ L cd, T3 c (A.deeper (mkE (fdS st) q L f cd)) (execs (fdB st) (mkE (fdS st) q L f cd)) P ((L, NsP m) :: σ) (Bk L Q) NoE) : T3 c A (PySem.call (.ref f) args) P σ Q E :=
  T3.call (C3.d0 F m hr hb hk h)
theorem T3.d1 {f d : Addr} {st : Stmt} {q : Str} {args : List Value} {vs : Array Value} (kf : KF c) (F : FnS c f st q (.ref d)) (m : Lo) (hr : A.depth < recursionLimit) (hd : dfltTab.lookup d = some vs)
    (hb : ∀ name doc pm cdv ct an, ∃ k, bindArgs (fnOf name q (fdP st) (fdB st) (fdS st) (.ref d) .none doc pm an cdv ct) ⟨args, []⟩ = seqItems? (.ref d) >>= k ∧ k (some vs) = Pure.pure m.reverse) (hk : defOk (fdS st) m = true)
    (h : ∀ L cd, T3 c (A.deeper (mkE (fdS st) q L f cd)) (execs (fdB st) (mkE (fdS st) q L f cd)) P ((L, NsP m) :: σ) (Bk L Q) NoE) : T3 c A (PySem.call (.ref f) args) P σ Q E :=
  T3.call (C3.d1 kf F m hr hd hb hk h)
theorem T3.sFM {x dx C L : Addr} {n : Str} {v : Value} {m : Lo} {fs fs' : Fs} {Q : Unit → Vw → St → Prop} (kf : KF c) (hx : P x = some (instObj C dx)) (hC : clsTab.contains C = true) (hi : instTab.contains (C, n) = true) (hs : setF n v fs = fs') (hz : fs'.length ≤ 1000)
    (h : Q () P ((L, NsP m) :: (dx, IsF fs') :: σ)) : T3 c A (setAttr (.ref x) n v) P ((L, NsP m) :: (dx, IsF fs) :: σ) Q E :=
  T3.setFM hx (kf.cls C hC) (kf.taker C n hi) hs hz h
end

section
variable {c : Cx} {A : Around} {P : Vw} {σ : St} {E : Value → Vw → St → Prop} {env : Env} {Q : Value → Vw → St → Prop} {pos : Pos} {t u : Tok} {ws : List Nat}
/-- value[i], the kind of the value to come -/
noncomputable abbrev kGet (c : Cx) (A : Around) (E : KO Value) (o : Value) (Q : KO Value) : KO Value := fun iv P σ => ∃ T id, typeLookup (.type T) "__getitem__" = Pure.pure (some (.builtin id)) ∧ HasT c o T P σ ∧ T3 c A (getItem o iv) P σ Q E
noncomputable abbrev kSg1 (c : Cx) (A : Around) (env : Env) (E : KO Value) (i : Expr) (Q : KO Value) : KO Value := fun o P σ => T3 c A (eval i env) P σ (kGet c A E o Q) E
theorem T3.subG {value i : Expr} (h : T3 c A (eval value env) P σ (kSg1 c A env E i Q) E)
    (hs : ∀ o iv, subscripted i false o iv = PySem.operate [o, iv] (getItem o iv)) : T3 c A (eval (.Subscript value i pos) env) P σ Q E := by
  rw [arm_eval_Subscript]
  refine T3.bind (h.conseq fun o _ _ _ h => T3.bind (T3.holding (h.conseq fun iv P2 σ2 _ h => T3.bind (T3.standAt ?_))))
  obtain ⟨T, id, hl, hT, h⟩ := h
  have gi : ∀ {Q' : Bool → Vw → St → Prop}, Q' false P2 σ2 → T3 c A (getitemInPython o) P2 σ2 Q' E := fun {Q'} q τ s g => by
    unfold getitemInPython
    refine wpAny_bind (wpAny_specialOf (hT τ s g) hl ?_)
    exact wpAny_pure ⟨P2, σ2, Le.refl _, g, q⟩
  refine T3.bind (gi ?_)
  rw [hs]
  exact T3.bind (T3.operate (h.conseq fun r _ _ _ h => T3.bind (T3.letgo (T3.pure h))))
/-- value[a:b] -/
noncomputable abbrev kSl4 (c : Cx) (A : Around) (E : KO Value) (o vl vu : Value) (Q : KO Value) : KO Value := fun vs P4 σ4 => ∀ sl P5, Le P4 P5 → SlP P5 sl vl vu vs → kGet c A E o Q (.ref sl) P5 σ4
noncomputable abbrev kSl3 (c : Cx) (A : Around) (env : Env) (E : KO Value) (st : Option Expr) (o vl : Value) (Q : KO Value) : KO Value := fun vu P σ => T3 c A (evPart st env) P σ (kSl4 c A E o vl vu Q) E
noncomputable abbrev kSl2 (c : Cx) (A : Around) (env : Env) (E : KO Value) (up st : Option Expr) (o : Value) (Q : KO Value) : KO Value := fun vl P σ => T3 c A (evPart up env) P σ (kSl3 c A env E st o vl Q) E
noncomputable abbrev kSl1 (c : Cx) (A : Around) (env : Env) (E : KO Value) (lo up st : Option Expr) (Q : KO Value) : KO Value := fun o P σ => T3 c A (evPart lo env) P σ (kSl2 c A env E up st o Q) E
theorem T3.subSl {value : Expr} {lo up st : Option Expr} {p2 : Pos}
    (h : T3 c A (eval value env) P σ (kSl1 c A env E lo up st Q) E)
    (hs : ∀ o iv, ∃ vs, subscripted (.Slice lo up st p2) false o iv = PySem.operate vs (getItem o iv)) : T3 c A (eval (.Subscript value (.Slice lo up st p2) pos) env) P σ Q E := by
  rw [arm_eval_Subscript]
  refine T3.bind (h.conseq fun o _ _ _ h => T3.bind (T3.holding (T3.eSlice (h.conseq fun vl _ _ _ h => T3.conseq h fun vu _ _ _ h => T3.conseq h fun vs P4 σ4 _ h => fun sl P5 l5 hsl => T3.bind (T3.standAt ?_)))))
  obtain ⟨T, id, hl, hT, h⟩ := h sl P5 l5 hsl
  have gi : ∀ {Q' : Bool → Vw → St → Prop}, Q' false P5 σ4 → T3 c A (getitemInPython o) P5 σ4 Q' E := fun {Q'} q τ s g => by
    unfold getitemInPython
    refine wpAny_bind (wpAny_specialOf (hT τ s g) hl ?_)
    exact wpAny_pure ⟨P5, σ4, Le.refl _, g, q⟩
  refine T3.bind (gi ?_)
  obtain ⟨_, hs⟩ := hs o (.ref sl)
  rw [hs]
  exact T3.bind (T3.operate (h.conseq fun r _ _ _ h => T3.bind (T3.letgo (T3.pure h))))
theorem T3.gStr {iv : Value} {w : Str} (h : T3 c A (getItem (.str w t) iv) P σ Q E) : kGet c A E (.str w t) Q iv P σ := ⟨_, _, lk_str, HasT.str, h⟩
theorem T3.gLi {iv : Value} {a : Addr} {xs : List Value} (hl : LiP P a xs) (h : T3 c A (getItem (.ref a) iv) P σ Q E) : kGet c A E (.ref a) Q iv P σ := ⟨_, _, lk_list, HasT.liP hl, h⟩
theorem T3.gTu {iv : Value} {a : Addr} {xs : List Value} (hl : TuP P a xs) (h : T3 c A (getItem (.ref a) iv) P σ Q E) : kGet c A E (.ref a) Q iv P σ := ⟨_, _, lk_tuple, HasT.tu hl, h⟩
theorem T3.gDi {iv : Value} {a : Addr} {fs : Fs} (hm : (a, IsD c fs) ∈ σ) (h : T3 c A (getItem (.ref a) iv) P σ Q E) : kGet c A E (.ref a) Q iv P σ := ⟨_, _, lk_dict, HasT.d hm, h⟩
theorem T3.sItemS {k : Nat} {i : Int} {ch : Nat} (hi : i = k) (hk : ws[k]? = some ch) (hz : ws.length ≤ 4000000) (h : ∀ k, Q (.str (S [ch]) k) P σ) : T3 c A (getItem (.str (S ws) t) (.int i u)) P σ Q E := by
  subst hi
  obtain ⟨h1, h2⟩ := List.getElem?_eq_some_iff.mp hk
  refine T3.sItem (by unfold fitsSsize; simp; omega) (by rw [S_charAt hk]; rfl) fun k' => ?_
  rw [S_item hk]; exact h k'
theorem T3.sLenS (hz : ws.length ≤ 4000000) (h : ∀ k, Q (.int ws.length k) P σ) : T3 c A (PySem.call (.builtin "len") [.str (S ws) t]) P σ Q E := T3.sLen (by rw [S_len]; exact hz) fun k => by rw [S_len]; exact h k
theorem T3.sSlice {w : Str} {sl : Addr} {l u : Option (Int × Tok)} (hs : SlP P sl (optOf l) (optOf u) .none) (hz : w.length ≤ sizeLine) (h : ∀ k, Q (.str (Txt.slice w (l.map (·.1)) (u.map (·.1))) k) P σ) : T3 c A (getItem (.str w t) (.ref sl)) P σ Q E := fun τ s g => by
  have hsl : s.heap.IsSlice sl l u none := by
    obtain ⟨o, ho, hc, hd⟩ := hs
    refine ⟨o, g.ok.per _ _ ho, ?_⟩
    rcases l with _ | ⟨i, ti⟩ <;> rcases u with _ | ⟨j, tj⟩ <;> exact ⟨hc, hd⟩
  refine wpAny_getItem_str_slice hsl rfl ?_
  rw [Txt_slice_made]
  split
  · rename_i e
    have := h t
    rw [e.1] at this
    exact ⟨P, σ, Le.refl _, g, this⟩
  · exact ⟨Nat.le_trans (Txt.slice_le w _ _) hz, P, σ, Le.refl _, g.toks _, h _⟩
theorem T3.sSliceS {sl : Addr} {i j : Int} {a b : Nat} {ti tj : Tok} (hs : SlP P sl (.int i ti) (.int j tj) .none) (hi : i = a) (hj : j = b) (hz : ws.length ≤ 4000000) (h : ∀ k, Q (.str (S ((ws.drop a).take (b - a))) k) P σ) : T3 c A (getItem (.str (S ws) t) (.ref sl)) P σ Q E :=
  T3.sSlice (l := some (i, ti)) (u := some (j, tj)) hs (by rw [S_len, sizeLine_eq]; omega) fun k => by
    subst hi hj
    show Q (.str (Txt.slice (S ws) (some (a : Int)) (some (b : Int))) k) P σ
    rw [S_slice]; exact h k
end
section
variable {c : Cx} {A : Around} {P : Vw} {σ : St} {env : Env} {R : Result → Vw → St → Prop} {test : Expr} {body orelse : List Stmt}
noncomputable abbrev WTurn (c : Cx) (A : Around) (env : Env) (test : Expr) (body orelse : List Stmt) (R : Result → Vw → St → Prop) (J : Vw → St → Prop) (P : Vw) (σ : St) : Prop :=
  T3 c A (isTrue test env (eval test env)) P σ (kWt c A env body orelse R J) NoE
theorem C3.whileN (I : Nat → Vw → St → Prop) (n : Nat) (h0 : I 0 P σ)
    (turn : ∀ i P' σ', Le P P' → i < n → I i P' σ' → WTurn c A env test body orelse R (I (i + 1)) P' σ')
    (last : ∀ P' σ', Le P P' → I n P' σ' → WTurn c A env test body orelse R (fun _ _ => False) P' σ') : C3 c A (.whileLoop test body orelse env) P σ R := by
  have X : ∀ (k i : Nat) (P' : Vw) (σ' : St), i + k = n → Le P P' → I i P' σ' → C3 c A (.whileLoop test body orelse env) P' σ' R := by
    intro k
    induction k with
    | zero =>
      intro i P' σ' hi l hI
      obtain rfl : i = n := hi
      refine T3.wTurn ((last P' σ' l hI).conseq fun b P1 σ1 l1 h => ⟨fun hb => (h.1 hb).conseq fun f P2 σ2 l2 q => ?_, h.2⟩)
      cases f with
      | next => exact q.elim
      | cont => exact q.elim
      | brk => exact q
      | ret v => exact q
    | succ k ih =>
      intro i P' σ' hi l hI
      refine T3.wTurn ((turn i P' σ' l (by omega) hI).conseq fun b P1 σ1 l1 h => ⟨fun hb => (h.1 hb).conseq fun f P2 σ2 l2 q => ?_, h.2⟩)
      cases f with
      | next => exact ih (i + 1) P2 σ2 (by omega) (l.trans (l1.trans l2)) q
      | cont => exact ih (i + 1) P2 σ2 (by omega) (l.trans (l1.trans l2)) q
      | brk => exact q
      | ret v => exact q
  exact X n 0 P σ (by omega) (Le.refl _) h0
end
/-- a bigger set of locals -/
noncomputable def Has (m m0 : Lo) : Prop := ∀ x v, m0.lookup x = some v → m.lookup x = some v
theorem Has.nil {m : Lo} : Has m [] := fun x v h => by simp at h
theorem Has.cons {m m0 : Lo} {x : Str} {v : Value} (h : m.lookup x = some v) (r : Has m m0) : Has m ((x, v) :: m0) := fun y u e => by
  rw [List.lookup_cons] at e
  cases q : y == x with
  | true =>
    rw [q] at e
    obtain rfl : y = x := by simpa using q
    obtain rfl : v = u := by simpa using e
    exact h
  | false => rw [q] at e; exact r y u e
theorem Has.refl {m : Lo} : Has m m := fun _ _ h => h
section
variable {α : Type} {c : Cx} {A : Around} {P : Vw} {σ : St} {E : Value → Vw → St → Prop} {env : Env}
/-- a change of the books alone -/
noncomputable def Gs (c : Cx) (P : Vw) (σ : St) (R : Vw → St → Prop) : Prop := ∀ τ s, Gd c P σ τ s → ∃ P2 σ2, Le P P2 ∧ Gd c P2 σ2 τ s ∧ R P2 σ2
theorem T3.post {t : Sem α} {Q₁ Q : α → Vw → St → Prop} (h : T3 c A t P σ Q₁ E) (k : ∀ a P' σ', Le P P' → Q₁ a P' σ' → Gs c P' σ' (Q a)) : T3 c A t P σ Q E := fun τ s g =>
  wpAny_mono (h τ s g) (fun a s' ⟨P', σ', l, g', q⟩ => let ⟨P2, σ2, l2, g2, q2⟩ := k a P' σ' l q τ s' g'; ⟨P2, σ2, l.trans l2, g2, q2⟩) fun _ _ z => z
theorem Gs.now {R : Vw → St → Prop} (h : R P σ) : Gs c P σ R := fun τ s g => ⟨P, σ, Le.refl _, g, h⟩
theorem Gs.freezeF {R : Vw → St → Prop} {x C a : Addr} {fs : Fs} {pre : St} (hx : P x = some (instObj C a)) (h : ∀ P', Le P P' → InP P' x C fs → Gs c P' (pre ++ σ) R) : Gs c P (pre ++ (a, IsF fs) :: σ) R := fun τ s g => by
  obtain ⟨o, hφ, hp, k⟩ := (g.ok.perm List.perm_middle).freeze
  obtain ⟨P2, σ2, l2, g2, q2⟩ := h _ (le_put hp) ⟨a, le_put hp _ _ hx, o, put_self, hφ⟩ τ s ⟨k, g.gens, g.os⟩
  exact ⟨P2, σ2, (le_put hp).trans l2, g2, q2⟩
theorem Gs.freezeLi {R : Vw → St → Prop} {a : Addr} {xs : List Value} {pre : St} (h : ∀ P', Le P P' → LiP P' a xs → Gs c P' (pre ++ σ) R) : Gs c P (pre ++ (a, IsLi xs) :: σ) R := fun τ s g => by
  obtain ⟨o, ⟨n, e⟩, hp, k⟩ := (g.ok.perm List.perm_middle).freeze
  obtain ⟨P2, σ2, l2, g2, q2⟩ := h _ (le_put hp) ⟨o, put_self, e ▸ rfl, n, e ▸ rfl⟩ τ s ⟨k, g.gens, g.os⟩
  exact ⟨P2, σ2, (le_put hp).trans l2, g2, q2⟩
variable {target : Expr} {body orelse : List Stmt} {R : Result → Vw → St → Prop} {l : Addr} {x : Value}
theorem ForR.one {item : Nat → Value → Prop} {x : Value} {J : Vw → St → Prop} (hi : ∀ v, item 0 v → v = x)
    (step : T3 c A (assign target env x) P σ (kBd c A env body R J) NoE)
    (stop : ∀ P' σ', Le P P' → J P' σ' → T3 c A (execs orelse env) P' σ' (kDn R) NoE) :
    ForR c A env target body orelse P 1 item (fun i P' σ' => match i with | 0 => P' = P ∧ σ' = σ | _ => J P' σ') R := by
  refine ⟨fun i v P' σ' l hi' hv hI => ?_, fun P' σ' l hJ => stop P' σ' l hJ⟩
  obtain rfl : i = 0 := by omega
  obtain ⟨rfl, rfl⟩ := hI
  rw [hi v hv]
  exact step
theorem T3.itLi1 {J : Vw → St → Prop} (h : LiP P l [x]) (hA : A.handled = none)
    (step : T3 c A (assign target env x) P σ (kBd c A env body R J) NoE)
    (stop : ∀ P' σ', Le P P' → J P' σ' → T3 c A (execs orelse env) P' σ' (kDn R) NoE) :
    T3 c A (pyIter (.ref l)) P σ (kFor c A env target body orelse R) E :=
  T3.itLi h hA _ ⟨rfl, rfl⟩ (ForR.one (fun v e => by simpa using e.symm) step stop)
theorem T3.itTu1 {J : Vw → St → Prop} (h : TuP P l [x]) (hA : A.handled = none)
    (step : T3 c A (assign target env x) P σ (kBd c A env body R J) NoE)
    (stop : ∀ P' σ', Le P P' → J P' σ' → T3 c A (execs orelse env) P' σ' (kDn R) NoE) :
    T3 c A (pyIter (.ref l)) P σ (kFor c A env target body orelse R) E :=
  T3.itTu h hA _ ⟨rfl, rfl⟩ (ForR.one (fun v e => by simpa using e.symm) step stop)
end
section
variable {c : Cx} {A : Around} {P : Vw} {σ : St} {E : Value → Vw → St → Prop} {env : Env} {Q : Unit → Vw → St → Prop} {x y z : Str} {px py pz tp : Pos} {k : Nat} {a : Addr} {u v w : Value}
theorem T3.unp2 (hA : A.handled = none) (ht : TuP P a [u, v]) (h : T3 c A (assign (.Name x px) env u) P σ (kAn c A env E (.Name y py) v Q) E) : T3 c A (assign (.Tuple [.Name x px, .Name y py] k tp) env (.ref a)) P σ Q E :=
  T3.unp hA ht rfl rfl (T3.ao1 (h.conseq fun _ _ _ _ h => T3.ao1 (h.conseq fun _ _ _ _ h => T3.ao0 h)))
theorem T3.unp3 (hA : A.handled = none) (ht : TuP P a [u, v, w]) (h : T3 c A (assign (.Name x px) env u) P σ (kAn c A env E (.Name y py) v (kAn c A env E (.Name z pz) w Q)) E) : T3 c A (assign (.Tuple [.Name x px, .Name y py, .Name z pz] k tp) env (.ref a)) P σ Q E :=
  T3.unp hA ht rfl rfl (T3.ao1 (h.conseq fun _ _ _ _ h => T3.ao1 (h.conseq fun _ _ _ _ h => T3.ao1 (h.conseq fun _ _ _ _ h => T3.ao0 h))))
end
section
variable {α : Type} {c : Cx} {A : Around} {P : Vw} {σ : St} {env : Env} {R : Result → Vw → St → Prop} {test : Expr} {body orelse : List Stmt}
theorem C3.whileM (μ : α → Nat) (I : α → Vw → St → Prop)
    (turn : ∀ a P' σ', Le P P' → I a P' σ' → WTurn c A env test body orelse R (fun P2 σ2 => ∃ a', μ a' < μ a ∧ I a' P2 σ2) P' σ') (a : α) (h0 : I a P σ) : C3 c A (.whileLoop test body orelse env) P σ R := by
  have X : ∀ (n : Nat) (a : α) (P' : Vw) (σ' : St), μ a < n → Le P P' → I a P' σ' → C3 c A (.whileLoop test body orelse env) P' σ' R := by
    intro n
    induction n with
    | zero => intro a P' σ' hi; exact absurd hi (Nat.not_lt_zero _)
    | succ n ih =>
      intro a P' σ' hi l hI
      refine T3.wTurn ((turn a P' σ' l hI).conseq fun b P1 σ1 l1 h => ⟨fun hb => (h.1 hb).conseq fun f P2 σ2 l2 q => ?_, h.2⟩)
      cases f with
      | next => obtain ⟨a', h1, h2⟩ := q; exact ih a' P2 σ2 (by omega) (l.trans (l1.trans l2)) h2
      | cont => obtain ⟨a', h1, h2⟩ := q; exact ih a' P2 σ2 (by omega) (l.trans (l1.trans l2)) h2
      | brk => exact q
      | ret v => exact q
  exact X (μ a + 1) a P σ (Nat.lt_succ_self _) (Le.refl _) h0
end
section
variable {α : Type} {c : Cx} {A : Around} {P : Vw} {σ : St} {E : Value → Vw → St → Prop}
theorem T3.frAt {t : Sem α} {pre post : St} {y : Addr × (Obj → Prop)} {Q₁ Q : α → Vw → St → Prop} (h : T3 c A t P [y] Q₁ NoE) (k : ∀ a P' σ', Le P P' → Q₁ a P' σ' → Q a P' (pre ++ (σ' ++ post))) : T3 c A t P (pre ++ y :: post) Q E :=
  T3.frame (σ₁ := [y]) (σ₂ := pre ++ post) List.perm_middle h (fun σ' => pre ++ (σ' ++ post)) (fun σ' => by
    rw [← List.append_assoc, ← List.append_assoc]
    exact List.perm_append_comm.append_right _) k fun _ _ _ _ z => z.elim
theorem T3.frTl {t : Sem α} {pre σ₁ : St} {Q₁ Q : α → Vw → St → Prop} (h : T3 c A t P σ₁ Q₁ NoE) (k : ∀ a P' σ', Le P P' → Q₁ a P' σ' → Q a P' (pre ++ σ')) : T3 c A t P (pre ++ σ₁) Q E :=
  T3.frame (σ₁ := σ₁) (σ₂ := pre) List.perm_append_comm h (fun σ' => pre ++ σ') (fun σ' => List.perm_append_comm) k fun _ _ _ _ z => z.elim
end
section
variable {c : Cx} {A : Around} {P : Vw} {σ : St} {E : Value → Vw → St → Prop} {env : Env} {Q : Value → Vw → St → Prop} {pos : Pos}
theorem T3.boolE2 {op : BoolOp} {e1 e2 : Expr} (h : T3 c A (boolOp pos op [eval e1 env, eval e2 env]) P σ Q E) : T3 c A (eval (.BoolOp op [e1, e2] pos) env) P σ Q E := h
end
/-! names, what is asked of them in one look -/
section
variable {c : Cx} {A : Around} {P : Vw} {σ : St} {E : Value → Vw → St → Prop} {env : Env} {Q : Value → Vw → St → Prop} {pos : Pos}
noncomputable def okN (k : NameKind) (env : Env) (x : Str) : Bool := !(x == ("__debug__" : Str)) && (decide (env.scope.kind = .function) && decide (env.kindOf x = some k))
theorem okN.get {k : NameKind} {x : Str} (h : okN k env x = true) : (x == ("__debug__" : Str)) = false ∧ env.scope.kind = .function ∧ env.kindOf x = some k := by
  unfold okN at h
  rw [Bool.and_eq_true, Bool.and_eq_true, Bool.not_eq_true', decide_eq_true_eq, decide_eq_true_eq] at h
  exact h
noncomputable def okG (env : Env) (x : Str) : Bool := okN .globalImplicit env x && decide (env.globals = mainGlobals)
theorem okG.get {x : Str} (h : okG env x = true) : okN .globalImplicit env x = true ∧ env.globals = mainGlobals := by
  unfold okG at h
  rw [Bool.and_eq_true, decide_eq_true_eq] at h
  exact h
noncomputable def okB (env : Env) (x : Str) : Bool := okG env x && (decide (env.builtins = builtinsNs) && (noGlob.contains x && !(x == ("__name__" : Str))))
theorem okB.get {x : Str} (h : okB env x = true) : okG env x = true ∧ env.builtins = builtinsNs ∧ noGlob.contains x = true ∧ x ≠ "__name__" := by
  unfold okB at h
  rw [Bool.and_eq_true, Bool.and_eq_true, Bool.and_eq_true, decide_eq_true_eq, Bool.not_eq_true'] at h
  exact ⟨h.1, h.2.1, h.2.2.1, fun e => by have := h.2.2.2; rw [e] at this; simp at this⟩
theorem T3.nL {x : Str} {m : Lo} {v : Value} (ho : okN .local env x = true) (hv : m.lookup x = some v) (h : Q v P ((env.locals, NsP m) :: σ)) : T3 c A (eval (.Name x pos) env) P ((env.locals, NsP m) :: σ) Q E :=
  let g := okN.get ho; T3.nmL g.1 g.2.1 g.2.2 hv h
theorem T3.nG {x : Str} {v : Value} (kf : KF c) (ho : okG env x = true) (e : globTab.lookup x = some v) (h : Q v P σ) : T3 c A (eval (.Name x pos) env) P σ Q E :=
  let k := okG.get ho; let g := okN.get k.1; T3.nmG kf k.2 g.2.1 g.2.2 e g.1 h
theorem T3.nB {x : Str} {v : Value} (kf : KF c) (ho : okB env x = true) (hv : bootBuiltins x = some v) (h : Q v P σ) : T3 c A (eval (.Name x pos) env) P σ Q E :=
  let b := okB.get ho; let k := okG.get b.1; let g := okN.get k.1; T3.nmB kf k.2 b.2.1 g.2.1 g.2.2 b.2.2.1 hv b.2.2.2 g.1 h
end
/-! what stands in a view -/
noncomputable def SpP (P : Vw) (sp : Addr) (ch : Nat) : Prop := ∃ pr t1 t2, TuP P sp [.ref pr] ∧ TuP P pr [.int ch t1, .int ch t2]
noncomputable def CsP (P : Vw) (s : Addr) (ch : Nat) : Prop := ∃ sp, InP P s 442 [(Str.ofString "spans", .ref sp)] ∧ SpP P sp ch
theorem SpP.le {P P' : Vw} {a : Addr} {ch : Nat} (l : Le P P') (h : SpP P a ch) : SpP P' a ch := let ⟨pr, t1, t2, h1, h2⟩ := h; ⟨pr, t1, t2, h1.le l, h2.le l⟩
theorem CsP.le {P P' : Vw} {a : Addr} {ch : Nat} (l : Le P P') (h : CsP P a ch) : CsP P' a ch := let ⟨sp, h1, h2⟩ := h; ⟨sp, h1.le l, h2.le l⟩
/-! trees -/
inductive LK | star | plus | opt
deriving DecidableEq
inductive Tr
  | chr (c : Nat) | emp | cat (l r : Tr) | alt (l r : Tr) | loop (k : LK) (b : Tr)
deriving DecidableEq
noncomputable def LK.cls : LK → Addr | .star => 645 | .plus => 657 | .opt => 669
noncomputable def Node (P : Vw) : Value → Tr → Prop
  | v, .chr ch => ∃ x s, v = .ref x ∧ InP P x 543 [(Str.ofString "charset", .ref s)] ∧ CsP P s ch
  | v, .emp => ∃ x, v = .ref x ∧ InP P x 505 []
  | v, .cat l r => ∃ x a b, v = .ref x ∧ InP P x 588 [(Str.ofString "left", .ref a), (Str.ofString "right", .ref b)] ∧ Node P (.ref a) l ∧ Node P (.ref b) r
  | v, .alt l r => ∃ x a b, v = .ref x ∧ InP P x 600 [(Str.ofString "left", .ref a), (Str.ofString "right", .ref b)] ∧ Node P (.ref a) l ∧ Node P (.ref b) r
  | v, .loop k b => ∃ x a, v = .ref x ∧ InP P x k.cls [(Str.ofString "body", .ref a)] ∧ Node P (.ref a) b
theorem Node.le {P P' : Vw} (q : Le P P') : ∀ {t : Tr} {v : Value}, Node P v t → Node P' v t
  | .chr _, _, ⟨x, s, e, h, h2⟩ => ⟨x, s, e, h.le q, h2.le q⟩
  | .emp, _, ⟨x, e, h⟩ => ⟨x, e, h.le q⟩
  | .cat _ _, _, ⟨x, a, b, e, h, h1, h2⟩ => ⟨x, a, b, e, h.le q, Node.le q h1, Node.le q h2⟩
  | .alt _ _, _, ⟨x, a, b, e, h, h1, h2⟩ => ⟨x, a, b, e, h.le q, Node.le q h1, Node.le q h2⟩
  | .loop _ _, _, ⟨x, a, e, h, h1⟩ => ⟨x, a, e, h.le q, Node.le q h1⟩
theorem Node.ref {P : Vw} : ∀ {t : Tr} {v : Value}, Node P v t → ∃ x, v = .ref x
  | .chr _, _, ⟨x, s, e, h, h2⟩ => ⟨x, e⟩
  | .emp, _, ⟨x, e, h⟩ => ⟨x, e⟩
  | .cat _ _, _, ⟨x, a, b, e, h, h1, h2⟩ => ⟨x, e⟩
  | .alt _ _, _, ⟨x, a, b, e, h, h1, h2⟩ => ⟨x, e⟩
  | .loop _ _, _, ⟨x, a, e, h, h1⟩ => ⟨x, e⟩
noncomputable def LK.nm : LK → Str | .star => Str.ofString "star" | .plus => Str.ofString "plus" | .opt => Str.ofString "opt"
/-! what is told -/
noncomputable def TreeV (P : Vw) : Value → Tr → Prop
  | v, .chr ch => ∃ a sp t, v = .ref a ∧ TuP P a [.str (Str.ofString "chars") t, .ref sp] ∧ SpP P sp ch
  | v, .emp => ∃ a t, v = .ref a ∧ TuP P a [.str (Str.ofString "empty") t]
  | v, .cat l r => ∃ a t x y, v = .ref a ∧ TuP P a [.str (Str.ofString "cat") t, .ref x, .ref y] ∧ TreeV P (.ref x) l ∧ TreeV P (.ref y) r
  | v, .alt l r => ∃ a t x y, v = .ref a ∧ TuP P a [.str (Str.ofString "alt") t, .ref x, .ref y] ∧ TreeV P (.ref x) l ∧ TreeV P (.ref y) r
  | v, .loop k b => ∃ a t x, v = .ref a ∧ TuP P a [.str k.nm t, .ref x] ∧ TreeV P (.ref x) b
theorem TreeV.le {P P' : Vw} (q : Le P P') : ∀ {t : Tr} {v : Value}, TreeV P v t → TreeV P' v t
  | .chr _, _, ⟨x, s, t, e, h, h2⟩ => ⟨x, s, t, e, h.le q, h2.le q⟩
  | .emp, _, ⟨x, t, e, h⟩ => ⟨x, t, e, h.le q⟩
  | .cat _ _, _, ⟨x, t, a, b, e, h, h1, h2⟩ => ⟨x, t, a, b, e, h.le q, TreeV.le q h1, TreeV.le q h2⟩
  | .alt _ _, _, ⟨x, t, a, b, e, h, h1, h2⟩ => ⟨x, t, a, b, e, h.le q, TreeV.le q h1, TreeV.le q h2⟩
  | .loop _ _, _, ⟨x, t, a, e, h, h1⟩ => ⟨x, t, a, e, h.le q, TreeV.le q h1⟩
theorem TreeV.ref {P : Vw} : ∀ {t : Tr} {v : Value}, TreeV P v t → ∃ x, v = .ref x
  | .chr _, _, ⟨x, _, _, e, _⟩ => ⟨x, e⟩
  | .emp, _, ⟨x, _, e, _⟩ => ⟨x, e⟩
  | .cat _ _, _, ⟨x, _, _, _, e, _⟩ => ⟨x, e⟩
  | .alt _ _, _, ⟨x, _, _, _, e, _⟩ => ⟨x, e⟩
  | .loop _ _, _, ⟨x, _, _, e, _⟩ => ⟨x, e⟩
section
variable {c : Cx} {A : Around} {P : Vw} {σ : St} {E : Value → Vw → St → Prop} {Q : Value → Vw → St → Prop} {x cd : Addr} {T : List Nat} {p : Nat} {t1 t2 : Tok}
noncomputable abbrev Fits (T : List Nat) : Prop := T.length ≤ 100000
noncomputable abbrev cF (T : List Nat) (t1 : Tok) (p : Nat) (t2 : Tok) : Fs := [(Str.ofString "text", .str (S T) t1), (Str.ofString "at", .int p t2)]

theorem is_done_ (kf : KF c) (hr : Room A 3) (hz : Fits T) (hx : P x = some (instObj 222 cd)) :
    T3 c A (PySem.call (.ref 119) [.ref x]) P [(cd, IsF (cF T t1 p t2))] (fun v P' σ' => σ' = [(cd, IsF (cF T t1 p t2))] ∧ v = .bool (decide (T.length ≤ p))) NoE := by
  refine T3.d0 kf.f_Cursor_is_done [("self", .ref x)] hr.dep (fun _ _ _ _ _ _ => by kernel_rfl) (by kernel_rfl) fun L cdv => ?_
  refine T3.ss1 ?_
  (with_reducible refine T3.sRet ?_; refine T3.cmp1 ?_ rfl; refine T3.attr ?_ rfl); refine T3.nL (by kernel_rfl) rfl ?_; refine T3.gM (by assumption) (by with_reducible assumption) (List.mem_cons_of_mem _ List.mem_cons_self) (by first | assumption | kernel_rfl) (by kernel_rfl) rfl (by first | rfl | assumption) ?_; (with_reducible refine T3.calln ?_ rfl); refine T3.nB (by assumption) (by kernel_rfl) (by boot_by_name) ?_; (with_reducible refine T3.cwB ?_; refine T3.ar1 ?_; refine T3.attr ?_ rfl); refine T3.nL (by kernel_rfl) rfl ?_; refine T3.gM (by assumption) (by with_reducible assumption) (List.mem_cons_of_mem _ List.mem_cons_self) (by first | assumption | kernel_rfl) (by kernel_rfl) rfl (by first | rfl | assumption) ?_; (with_reducible refine T3.ar0 ?_); refine T3.sLenS (by omega) ?_; intro _; (with_reducible refine T3.iGe ?_; refine Nx.ret ?_)
  refine Bk.mk ⟨rfl, ?_⟩
  exact congrArg Value.bool (decide_eq_decide.mpr Int.ofNat_le)

/-- the sign at a place, or none -/
noncomputable def sg (T : List Nat) (p : Nat) : List Nat := match T[p]? with | some c => [c] | none => []
theorem sg_some {ch : Nat} (h : T[p]? = some ch) : sg T p = [ch] := by unfold sg; rw [h]
theorem sg_none (h : T.length ≤ p) : sg T p = [] := by unfold sg; rw [List.getElem?_eq_none h]
theorem peek0_ (kf : KF c) (hr : Room A 3) (hz : Fits T) (hx : P x = some (instObj 222 cd)) :
    T3 c A (PySem.call (.ref 127) [.ref x]) P [(cd, IsF (cF T t1 p t2))] (fun v P' σ' => σ' = [(cd, IsF (cF T t1 p t2))] ∧ ∃ t, v = .str (S (sg T p)) t) NoE := by
  refine T3.d1 kf kf.f_Cursor_peek [("ahead", .int 0 371), ("self", .ref x)] hr.dep rfl (fun _ _ _ _ _ _ => ⟨_, rfl, rfl⟩) (by kernel_rfl) fun L cdv => ?_
  refine T3.ss1 ?_
  refine T3.sAsg ?_ rfl rfl rfl; (with_reducible refine T3.binop ?_; refine T3.attr ?_ rfl); refine T3.nL (by kernel_rfl) rfl ?_; refine T3.gM (by assumption) (by with_reducible assumption) (List.mem_cons_of_mem _ List.mem_cons_self) (by first | assumption | kernel_rfl) (by kernel_rfl) rfl (by first | rfl | assumption) ?_; refine T3.nL (by kernel_rfl) rfl ?_; refine T3.iAdd ?_; intro _; (with_reducible refine T3.aName ?_); refine T3.st rfl ?_ (by kernel_rfl); (with_reducible refine Nx.nx ?_; refine T3.ss1 ?_; refine T3.sIf ?_; refine T3.isCmp2 ?_ rfl); refine T3.cint ?_; intro _; refine T3.nL (by kernel_rfl) rfl ?_; (with_reducible refine T3.iLe ?_; refine T3.truB ?_; refine yes rfl ?_; refine T3.calln ?_ rfl); refine T3.nB (by assumption) (by kernel_rfl) (by boot_by_name) ?_; (with_reducible refine T3.cwB ?_; refine T3.ar1 ?_; refine T3.attr ?_ rfl); refine T3.nL (by kernel_rfl) rfl ?_; refine T3.gM (by assumption) (by with_reducible assumption) (List.mem_cons_of_mem _ List.mem_cons_self) (by first | assumption | kernel_rfl) (by kernel_rfl) rfl (by first | rfl | assumption) ?_; (with_reducible refine T3.ar0 ?_); refine T3.sLenS (by omega) ?_; intro _; (with_reducible refine T3.iLt ?_; refine T3.truB ?_)
  by_cases h : p < T.length
  · refine yes (by simp; omega) ?_
    (with_reducible refine T3.ss1 ?_; refine T3.sRet ?_); refine T3.subG ?_ (fun _ _ => rfl); (with_reducible refine T3.attr ?_ rfl); refine T3.nL (by kernel_rfl) rfl ?_; refine T3.gM (by assumption) (by with_reducible assumption) (List.mem_cons_of_mem _ List.mem_cons_self) (by first | assumption | kernel_rfl) (by kernel_rfl) rfl (by first | rfl | assumption) ?_; refine T3.nL (by kernel_rfl) rfl ?_; (with_reducible refine T3.gStr ?_)
    refine T3.sItemS (k := p) (by omega) (List.getElem?_eq_getElem h) (by omega) fun _ => ?_
    (with_reducible refine Nx.ret ?_; refine Nx.ret ?_)
    exact Bk.mk ⟨rfl, _, by rw [sg_some (List.getElem?_eq_getElem h)]⟩
  · refine no (by simp; omega) ?_
    (with_reducible refine T3.ss0 ?_; refine Nx.nx ?_; refine T3.ss1 ?_; refine T3.sRet ?_); refine T3.cstr ?_; intro _; (with_reducible refine Nx.ret ?_)
    exact Bk.mk ⟨rfl, _, by rw [sg_none (by omega)]; rfl⟩
theorem take_ (kf : KF c) (hr : Room A 4) (hz : Fits T) (hx : P x = some (instObj 222 cd)) {ch : Nat} (hp : T[p]? = some ch) :
    T3 c A (PySem.call (.ref 141) [.ref x]) P [(cd, IsF (cF T t1 p t2))] (fun v P' σ' => (∃ t, σ' = [(cd, IsF (cF T t1 (p + 1) t))]) ∧ ∃ t, v = .str (S [ch]) t) NoE := by
  refine T3.d0 kf.f_Cursor_take [("self", .ref x)] hr.dep (fun _ _ _ _ _ _ => by kernel_rfl) (by kernel_rfl) fun L cdv => ?_
  have hp' := (List.getElem?_eq_some_iff.mp hp).1
  refine T3.ss1 ?_
  (with_reducible refine T3.sIf ?_); refine T3.isT rfl ?_; refine T3.callm ?_ rfl rfl rfl (lit rfl); refine T3.nL (by kernel_rfl) rfl ?_; refine T3.mFM (by assumption) (by with_reducible assumption) (List.mem_cons_of_mem _ List.mem_cons_self) (by first | assumption | kernel_rfl) rfl (by kernel_rfl) rfl ?_; refine T3.cw10 (by assumption) rfl ?_
  refine T3.fr1 (is_done_ kf hr.deeper hz hx) ?_
  rintro _ P1 _ l1 ⟨rfl, rfl⟩
  simp only [List.cons_append, List.nil_append, List.append_nil]
  (with_reducible refine T3.truB ?_)
  refine no (by simp; omega) ?_
  (with_reducible refine T3.ss0 ?_; refine Nx.nx ?_; refine T3.ss1 ?_); refine T3.sAsg ?_ rfl rfl rfl; refine T3.subG ?_ (fun _ _ => rfl); (with_reducible refine T3.attr ?_ rfl); refine T3.nL (by kernel_rfl) rfl ?_; refine T3.gM (by assumption) (by (with_reducible (apply Le.ap); (focus assumption); assumption)) (List.mem_cons_of_mem _ List.mem_cons_self) (by first | assumption | kernel_rfl) (by kernel_rfl) rfl (by first | rfl | assumption) ?_; (with_reducible refine T3.attr ?_ rfl); refine T3.nL (by kernel_rfl) rfl ?_; refine T3.gM (by assumption) (by (with_reducible (apply Le.ap); (focus assumption); assumption)) (List.mem_cons_of_mem _ List.mem_cons_self) (by first | assumption | kernel_rfl) (by kernel_rfl) rfl (by first | rfl | assumption) ?_; (with_reducible refine T3.gStr ?_)
  refine T3.sItemS (k := p) (by omega) hp (by omega) fun _ => ?_
  (with_reducible refine T3.aName ?_); refine T3.st rfl ?_ (by kernel_rfl); (with_reducible refine Nx.nx ?_; refine T3.ss1 ?_); refine T3.sAsg ?_ rfl rfl rfl; (with_reducible refine T3.binop ?_; refine T3.attr ?_ rfl); refine T3.nL (by kernel_rfl) rfl ?_; refine T3.gM (by assumption) (by (with_reducible (apply Le.ap); (focus assumption); assumption)) (List.mem_cons_of_mem _ List.mem_cons_self) (by first | assumption | kernel_rfl) (by kernel_rfl) rfl (by first | rfl | assumption) ?_; refine T3.cint ?_; intro _; refine T3.iAdd ?_; intro _; (with_reducible refine T3.aAttr ?_); refine T3.nL (by kernel_rfl) rfl ?_; refine T3.sFM (by assumption) (by (with_reducible (apply Le.ap); (focus assumption); assumption)) (by first | assumption | kernel_rfl) (by first | assumption | kernel_rfl) rfl (lit rfl) ?_; (with_reducible refine Nx.nx ?_; refine T3.ss1 ?_; refine T3.sRet ?_); refine T3.nL (by kernel_rfl) rfl ?_; (with_reducible refine Nx.ret ?_)
  exact Bk.mk ⟨⟨_, rfl⟩, _, rfl⟩
/-- a word stands at a place -/
noncomputable def atW (T : List Nat) (p : Nat) (w : List Nat) : Bool := (T.drop p).take w.length == w
theorem starts_ (kf : KF c) (hr : Room A 4) (hz : Fits T) (hx : P x = some (instObj 222 cd)) {w : List Nat} {tw : Tok} (hw : w.length ≤ 100) :
    T3 c A (PySem.call (.ref 134) [.ref x, .str (S w) tw]) P [(cd, IsF (cF T t1 p t2))] (fun v P' σ' => σ' = [(cd, IsF (cF T t1 p t2))] ∧ v = .bool (atW T p w)) NoE := by
  refine T3.d0 kf.f_Cursor_starts [("word", .str (S w) tw), ("self", .ref x)] hr.dep (fun _ _ _ _ _ _ => by kernel_rfl) (by kernel_rfl) fun L cdv => ?_
  refine T3.ss1 ?_
  (with_reducible refine T3.sRet ?_; refine T3.cmp1 ?_ rfl); refine T3.subSl ?_ (fun _ _ => ⟨_, rfl⟩); (with_reducible refine T3.attr ?_ rfl); refine T3.nL (by kernel_rfl) rfl ?_; refine T3.gM (by assumption) (by with_reducible assumption) (List.mem_cons_of_mem _ List.mem_cons_self) (by first | assumption | kernel_rfl) (by kernel_rfl) rfl (by first | rfl | assumption) ?_; (with_reducible refine T3.part1 ?_; refine T3.attr ?_ rfl); refine T3.nL (by kernel_rfl) rfl ?_; refine T3.gM (by assumption) (by with_reducible assumption) (List.mem_cons_of_mem _ List.mem_cons_self) (by first | assumption | kernel_rfl) (by kernel_rfl) rfl (by first | rfl | assumption) ?_; (with_reducible refine T3.part1 ?_; refine T3.binop ?_; refine T3.attr ?_ rfl); refine T3.nL (by kernel_rfl) rfl ?_; refine T3.gM (by assumption) (by with_reducible assumption) (List.mem_cons_of_mem _ List.mem_cons_self) (by first | assumption | kernel_rfl) (by kernel_rfl) rfl (by first | rfl | assumption) ?_; (with_reducible refine T3.calln ?_ rfl); refine T3.nB (by assumption) (by kernel_rfl) (by boot_by_name) ?_; (with_reducible refine T3.cwB ?_; refine T3.ar1 ?_); refine T3.nL (by kernel_rfl) rfl ?_; (with_reducible refine T3.ar0 ?_); refine T3.sLenS (by omega) ?_; intro _; refine T3.iAdd ?_; intro _; (with_reducible refine T3.part0 ?_)
  intro sl P1 l1 hs
  (with_reducible refine T3.gStr ?_)
  refine T3.sSliceS (a := p) (b := p + w.length) hs rfl rfl (by omega) fun _ => ?_
  refine T3.nL (by kernel_rfl) rfl ?_; (with_reducible refine T3.sEq ?_; refine Nx.ret ?_)
  refine Bk.mk ⟨rfl, ?_⟩
  rw [S_beq, Nat.add_sub_cancel_left]
  rfl
theorem skip_ (kf : KF c) (hr : Room A 6) (hz : Fits T) (hx : P x = some (instObj 222 cd)) {w : List Nat} {tw : Tok} (hw : w.length ≤ 100) :
    T3 c A (PySem.call (.ref 148) [.ref x, .str (S w) tw]) P [(cd, IsF (cF T t1 p t2))] (fun v P' σ' => v = .bool (atW T p w) ∧ ∃ t, σ' = [(cd, IsF (cF T t1 (if atW T p w then p + w.length else p) t))]) NoE := by
  refine T3.d0 kf.f_Cursor_skip [("word", .str (S w) tw), ("self", .ref x)] hr.dep (fun _ _ _ _ _ _ => by kernel_rfl) (by kernel_rfl) fun L cdv => ?_
  refine T3.ss1 ?_
  (with_reducible refine T3.sIf ?_; refine T3.isNot ?_); refine T3.isT rfl ?_; refine T3.callm ?_ rfl rfl rfl (lit rfl); refine T3.nL (by kernel_rfl) rfl ?_; refine T3.mFM (by assumption) (by with_reducible assumption) (List.mem_cons_of_mem _ List.mem_cons_self) (by first | assumption | kernel_rfl) rfl (by kernel_rfl) rfl ?_; refine T3.cw1 (by assumption) rfl ?_; (with_reducible refine T3.ar1 ?_); refine T3.nL (by kernel_rfl) rfl ?_; (with_reducible refine T3.ar0 ?_)
  refine T3.fr1 (starts_ kf (by exact Room.le (Room.deeper (by assumption)) (lit rfl)) hz hx hw) ?_
  rintro _ P1 _ l1 ⟨rfl, rfl⟩
  simp only [List.cons_append, List.nil_append, List.append_nil]
  (with_reducible refine T3.truB ?_)
  cases h : atW T p w
  · (with_reducible refine yes rfl ?_; refine T3.ss1 ?_; refine T3.sRet ?_; refine T3.cbool ?_; refine Nx.ret ?_; refine Nx.ret ?_)
    exact Bk.mk ⟨rfl, _, by rw [if_neg Bool.false_ne_true]⟩
  · (with_reducible refine no rfl ?_; refine T3.ss0 ?_; refine Nx.nx ?_; refine T3.ss1 ?_); refine T3.sAsg ?_ rfl rfl rfl; (with_reducible refine T3.binop ?_; refine T3.attr ?_ rfl); refine T3.nL (by kernel_rfl) rfl ?_; refine T3.gM (by assumption) (by (with_reducible (apply Le.ap); (focus assumption); assumption)) (List.mem_cons_of_mem _ List.mem_cons_self) (by first | assumption | kernel_rfl) (by kernel_rfl) rfl (by first | rfl | assumption) ?_; (with_reducible refine T3.calln ?_ rfl); refine T3.nB (by assumption) (by kernel_rfl) (by boot_by_name) ?_; (with_reducible refine T3.cwB ?_; refine T3.ar1 ?_); refine T3.nL (by kernel_rfl) rfl ?_; (with_reducible refine T3.ar0 ?_); refine T3.sLenS (by omega) ?_; intro _; refine T3.iAdd ?_; intro _; (with_reducible refine T3.aAttr ?_); refine T3.nL (by kernel_rfl) rfl ?_; refine T3.sFM (by assumption) (by (with_reducible (apply Le.ap); (focus assumption); assumption)) (by first | assumption | kernel_rfl) (by first | assumption | kernel_rfl) rfl (lit rfl) ?_; (with_reducible refine Nx.nx ?_; refine T3.ss1 ?_; refine T3.sRet ?_; refine T3.cbool ?_; refine Nx.ret ?_)
    exact Bk.mk ⟨rfl, _, by rw [if_pos rfl]; rfl⟩
end
section
variable {c : Cx} {A : Around} {P : Vw} {σ : St} {E : Value → Vw → St → Prop} {Q : Value → Vw → St → Prop} {x cd : Addr} {T : List Nat} {p : Nat} {t1 t2 : Tok}
theorem take_while_ (kf : KF c) (hr : Room A 4) (hz : Fits T) (hx : P x = some (instObj 222 cd)) {w : List Nat} {tw : Tok} (n : Nat) {ce : Nat} (hin : ∀ i, i < n → ∃ ch, T[p + i]? = some ch ∧ ch ∈ w) (hend : T[p + n]? = some ce) (hout : ce ∉ w) :
    T3 c A (PySem.call (.ref 155) [.ref x, .str (S w) tw]) P [(cd, IsF (cF T t1 p t2))] (fun v P' σ' => (∃ t, σ' = [(cd, IsF (cF T t1 (p + n) t))]) ∧ ∃ t, v = .str (S ((T.drop p).take n)) t) NoE := by
  let Q1 : KO Value := fun v P' σ' => (∃ t, σ' = [(cd, IsF (cF T t1 (p + n) t))]) ∧ ∃ t, v = .str (S ((T.drop p).take n)) t
  show T3 _ _ _ _ _ Q1 _
  refine T3.d0 kf.f_Cursor_take_while [("signs", .str (S w) tw), ("self", .ref x)] hr.dep (fun _ _ _ _ _ _ => by kernel_rfl) (by kernel_rfl) fun L cdv => ?_
  have hlt := (List.getElem?_eq_some_iff.mp hend).1
  refine T3.ss1 ?_
  refine T3.sAsg ?_ rfl rfl rfl; (with_reducible refine T3.attr ?_ rfl); refine T3.nL (by kernel_rfl) rfl ?_; refine T3.gM (by assumption) (by with_reducible assumption) (List.mem_cons_of_mem _ List.mem_cons_self) (by first | assumption | kernel_rfl) (by kernel_rfl) rfl (by first | rfl | assumption) ?_; (with_reducible refine T3.aName ?_); refine T3.st rfl ?_ (by kernel_rfl); (with_reducible refine Nx.nx ?_; refine T3.ss1 ?_; refine T3.sWhile ?_)
  let I1 : Nat → Vw → St → Prop := fun i P' σ' => ∃ t, σ' = [(L, NsP [(Str.ofString "begun", .int p t2), (Str.ofString "signs", .str (S w) tw), (Str.ofString "self", .ref x)]), (cd, IsF (cF T t1 (p + i) t))]
  refine C3.whileN I1 n ⟨_, rfl⟩ ?_ ?_
  · rintro i P1 _ l1 hi ⟨t, rfl⟩
    refine e1x2 (hin i hi) ?_; rintro ch h1 h2
    (with_reducible refine T3.isBool ?_; refine T3.and1 ?_; refine T3.isCmp ?_ rfl; refine T3.attr ?_ rfl); refine T3.nL (by kernel_rfl) rfl ?_; refine T3.gM (by assumption) (by (with_reducible (apply Le.ap); (focus assumption); assumption)) (List.mem_cons_of_mem _ List.mem_cons_self) (by first | assumption | kernel_rfl) (by kernel_rfl) rfl (by first | rfl | assumption) ?_; (with_reducible refine T3.calln ?_ rfl); refine T3.nB (by assumption) (by kernel_rfl) (by boot_by_name) ?_; (with_reducible refine T3.cwB ?_; refine T3.ar1 ?_; refine T3.attr ?_ rfl); refine T3.nL (by kernel_rfl) rfl ?_; refine T3.gM (by assumption) (by (with_reducible (apply Le.ap); (focus assumption); assumption)) (List.mem_cons_of_mem _ List.mem_cons_self) (by first | assumption | kernel_rfl) (by kernel_rfl) rfl (by first | rfl | assumption) ?_; (with_reducible refine T3.ar0 ?_); refine T3.sLenS (by omega) ?_; intro _; (with_reducible refine T3.iLt ?_; refine T3.truB ?_)
    refine yes (by simp; omega) ?_
    (with_reducible refine T3.and1 ?_; refine T3.isCmp ?_ rfl); refine T3.subG ?_ (fun _ _ => rfl); (with_reducible refine T3.attr ?_ rfl); refine T3.nL (by kernel_rfl) rfl ?_; refine T3.gM (by assumption) (by (with_reducible (apply Le.ap); (focus assumption); assumption)) (List.mem_cons_of_mem _ List.mem_cons_self) (by first | assumption | kernel_rfl) (by kernel_rfl) rfl (by first | rfl | assumption) ?_; (with_reducible refine T3.attr ?_ rfl); refine T3.nL (by kernel_rfl) rfl ?_; refine T3.gM (by assumption) (by (with_reducible (apply Le.ap); (focus assumption); assumption)) (List.mem_cons_of_mem _ List.mem_cons_self) (by first | assumption | kernel_rfl) (by kernel_rfl) rfl (by first | rfl | assumption) ?_; (with_reducible refine T3.gStr ?_)
    refine T3.sItemS (k := p + i) rfl h1 (by omega) fun _ => ?_
    refine T3.nL (by kernel_rfl) rfl ?_; (with_reducible refine T3.sIn ?_; refine T3.truB ?_)
    refine yes (by rw [S_contains]; simpa using h2) ?_
    (with_reducible refine T3.and0 ?_; refine yes rfl ?_; refine T3.ss1 ?_); refine T3.sAsg ?_ rfl rfl rfl; (with_reducible refine T3.binop ?_; refine T3.attr ?_ rfl); refine T3.nL (by kernel_rfl) rfl ?_; refine T3.gM (by assumption) (by (with_reducible (apply Le.ap); (focus assumption); assumption)) (List.mem_cons_of_mem _ List.mem_cons_self) (by first | assumption | kernel_rfl) (by kernel_rfl) rfl (by first | rfl | assumption) ?_; refine T3.cint ?_; intro _; refine T3.iAdd ?_; intro _; (with_reducible refine T3.aAttr ?_); refine T3.nL (by kernel_rfl) rfl ?_; refine T3.sFM (by assumption) (by (with_reducible (apply Le.ap); (focus assumption); assumption)) (by first | assumption | kernel_rfl) (by first | assumption | kernel_rfl) rfl (lit rfl) ?_; (with_reducible refine Nx.nx ?_; refine T3.ss0 ?_)
    exact ⟨_, rfl⟩
  · rintro P1 _ l1 ⟨t, rfl⟩
    (with_reducible refine T3.isBool ?_; refine T3.and1 ?_; refine T3.isCmp ?_ rfl; refine T3.attr ?_ rfl); refine T3.nL (by kernel_rfl) rfl ?_; refine T3.gM (by assumption) (by (with_reducible (apply Le.ap); (focus assumption); assumption)) (List.mem_cons_of_mem _ List.mem_cons_self) (by first | assumption | kernel_rfl) (by kernel_rfl) rfl (by first | rfl | assumption) ?_; (with_reducible refine T3.calln ?_ rfl); refine T3.nB (by assumption) (by kernel_rfl) (by boot_by_name) ?_; (with_reducible refine T3.cwB ?_; refine T3.ar1 ?_; refine T3.attr ?_ rfl); refine T3.nL (by kernel_rfl) rfl ?_; refine T3.gM (by assumption) (by (with_reducible (apply Le.ap); (focus assumption); assumption)) (List.mem_cons_of_mem _ List.mem_cons_self) (by first | assumption | kernel_rfl) (by kernel_rfl) rfl (by first | rfl | assumption) ?_; (with_reducible refine T3.ar0 ?_); refine T3.sLenS (by omega) ?_; intro _; (with_reducible refine T3.iLt ?_; refine T3.truB ?_)
    refine yes (by simp; omega) ?_
    (with_reducible refine T3.and1 ?_; refine T3.isCmp ?_ rfl); refine T3.subG ?_ (fun _ _ => rfl); (with_reducible refine T3.attr ?_ rfl); refine T3.nL (by kernel_rfl) rfl ?_; refine T3.gM (by assumption) (by (with_reducible (apply Le.ap); (focus assumption); assumption)) (List.mem_cons_of_mem _ List.mem_cons_self) (by first | assumption | kernel_rfl) (by kernel_rfl) rfl (by first | rfl | assumption) ?_; (with_reducible refine T3.attr ?_ rfl); refine T3.nL (by kernel_rfl) rfl ?_; refine T3.gM (by assumption) (by (with_reducible (apply Le.ap); (focus assumption); assumption)) (List.mem_cons_of_mem _ List.mem_cons_self) (by first | assumption | kernel_rfl) (by kernel_rfl) rfl (by first | rfl | assumption) ?_; (with_reducible refine T3.gStr ?_)
    refine T3.sItemS (k := p + n) rfl hend (by omega) fun _ => ?_
    refine T3.nL (by kernel_rfl) rfl ?_; (with_reducible refine T3.sIn ?_; refine T3.truB ?_)
    refine no (by rw [S_contains]; simpa using hout) ?_
    (with_reducible refine no rfl ?_; refine T3.ss0 ?_; refine Nx.nx ?_; refine T3.ss1 ?_; refine T3.sRet ?_); refine T3.subSl ?_ (fun _ _ => ⟨_, rfl⟩); (with_reducible refine T3.attr ?_ rfl); refine T3.nL (by kernel_rfl) rfl ?_; refine T3.gM (by assumption) (by (with_reducible (apply Le.ap); (focus assumption); assumption)) (List.mem_cons_of_mem _ List.mem_cons_self) (by first | assumption | kernel_rfl) (by kernel_rfl) rfl (by first | rfl | assumption) ?_; (with_reducible refine T3.part1 ?_); refine T3.nL (by kernel_rfl) rfl ?_; (with_reducible refine T3.part1 ?_; refine T3.attr ?_ rfl); refine T3.nL (by kernel_rfl) rfl ?_; refine T3.gM (by assumption) (by (with_reducible (apply Le.ap); (focus assumption); assumption)) (List.mem_cons_of_mem _ List.mem_cons_self) (by first | assumption | kernel_rfl) (by kernel_rfl) rfl (by first | rfl | assumption) ?_; (with_reducible refine T3.part0 ?_)
    intro sl P2 l2 hs
    (with_reducible refine T3.gStr ?_)
    refine T3.sSliceS (a := p) (b := p + n) hs rfl rfl (by omega) fun _ => ?_
    (with_reducible refine Nx.ret ?_)
    exact Bk.mk ⟨⟨_, rfl⟩, _, by rw [Nat.add_sub_cancel_left]⟩
noncomputable def NAMES : List Nat := (Str.ofString "abcdefghijklmnopqrstuvwxyzABCDEFGHIJKLMNOPQRSTUVWXYZ_0123456789").cps.toList
noncomputable def FIGS : List Nat := (Str.ofString "0123456789").cps.toList
theorem name_ (kf : KF c) (hr : Room A 6) (hz : Fits T) (hx : P x = some (instObj 222 cd)) (n : Nat) {c0 ce : Nat} (h0 : T[p]? = some c0) (hf : c0 ∉ FIGS) (hin : ∀ i, i < n → ∃ ch, T[p + i]? = some ch ∧ ch ∈ NAMES) (hn : 0 < n) (hend : T[p + n]? = some ce) (hout : ce ∉ NAMES) :
    T3 c A (PySem.call (.ref 177) [.ref x]) P [(cd, IsF (cF T t1 p t2))] (fun v P' σ' => (∃ t, σ' = [(cd, IsF (cF T t1 (p + n) t))]) ∧ ∃ t, v = .str (S ((T.drop p).take n)) t) NoE := by
  let Q1 : KO Value := fun v P' σ' => (∃ t, σ' = [(cd, IsF (cF T t1 (p + n) t))]) ∧ ∃ t, v = .str (S ((T.drop p).take n)) t
  show T3 _ _ _ _ _ Q1 _
  refine T3.d0 kf.f_Cursor_name [("self", .ref x)] hr.dep (fun _ _ _ _ _ _ => by kernel_rfl) (by kernel_rfl) fun L cdv => ?_
  refine T3.ss1 ?_
  refine T3.sAsg ?_ rfl rfl rfl; refine T3.callm ?_ rfl rfl rfl (lit rfl); refine T3.nL (by kernel_rfl) rfl ?_; refine T3.mFM (by assumption) (by with_reducible assumption) (List.mem_cons_of_mem _ List.mem_cons_self) (by first | assumption | kernel_rfl) rfl (by kernel_rfl) rfl ?_; refine T3.cw10 (by assumption) rfl ?_
  refine T3.fr1 (peek0_ kf (by exact Room.le (Room.deeper (by assumption)) (lit rfl)) hz hx) ?_
  rintro _ P1 _ l1 hqa; obtain ⟨rfl, _, rfl⟩ := hqa
  simp only [List.cons_append, List.nil_append, List.append_nil]
  rw [sg_some h0]
  (with_reducible refine T3.aName ?_); refine T3.st rfl ?_ (by kernel_rfl); (with_reducible refine Nx.nx ?_; refine T3.ss1 ?_; refine T3.sIf ?_; refine T3.isBool ?_; refine T3.or1 ?_; refine T3.isCmp ?_ rfl); refine T3.nL (by kernel_rfl) rfl ?_; refine T3.cstr ?_; intro _; (with_reducible refine T3.sEq ?_; refine T3.truB ?_; refine no rfl ?_; refine T3.or1 ?_; refine T3.isCmp ?_ rfl); refine T3.nL (by kernel_rfl) rfl ?_; refine T3.nG (by assumption) (by kernel_rfl) rfl ?_; (with_reducible refine T3.sNotIn ?_; refine T3.truB ?_)
  have hin0 : c0 ∈ NAMES := by
    refine e1x2 (hin 0 hn) ?_; rintro ch h1 h2
    rw [Nat.add_zero, h0] at h1
    cases h1; exact h2
  refine no (by
    show (!Txt.contains (S NAMES) (S [c0])) = false
    rw [S_contains]; simpa using hin0) ?_
  (with_reducible refine T3.or1 ?_; refine T3.isCmp ?_ rfl); refine T3.nL (by kernel_rfl) rfl ?_; refine T3.nG (by assumption) (by kernel_rfl) rfl ?_; (with_reducible refine T3.sIn ?_; refine T3.truB ?_)
  refine no (by
    show Txt.contains (S FIGS) (S [c0]) = false
    rw [S_contains]; simpa using hf) ?_
  (with_reducible refine T3.or0 ?_; refine no rfl ?_; refine T3.ss0 ?_; refine Nx.nx ?_; refine T3.ss1 ?_; refine T3.sRet ?_); refine T3.callm ?_ rfl rfl rfl (lit rfl); refine T3.nL (by kernel_rfl) rfl ?_; refine T3.mFM (by assumption) (by (with_reducible (apply Le.ap); (focus assumption); assumption)) (List.mem_cons_of_mem _ List.mem_cons_self) (by first | assumption | kernel_rfl) rfl (by kernel_rfl) rfl ?_; refine T3.cw1 (by assumption) rfl ?_; (with_reducible refine T3.ar1 ?_); refine T3.nG (by assumption) (by kernel_rfl) rfl ?_; (with_reducible refine T3.ar0 ?_)
  rw [show Str.ofString "abcdefghijklmnopqrstuvwxyzABCDEFGHIJKLMNOPQRSTUVWXYZ_0123456789" = S NAMES from rfl]
  refine T3.fr1 (take_while_ (w := NAMES) kf (by exact Room.le (Room.deeper (by assumption)) (lit rfl)) hz (by (with_reducible (apply Le.ap); (focus assumption); assumption)) n hin hend hout) ?_
  rintro _ P2 _ l2 hqa; obtain ⟨⟨t, rfl⟩, t', rfl⟩ := hqa
  simp only [List.cons_append, List.nil_append, List.append_nil]
  (with_reducible refine Nx.ret ?_)
  exact Bk.mk ⟨⟨_, rfl⟩, _, rfl⟩
end
section
variable {c : Cx} {A : Around} {P : Vw} {σ : St} {E : Value → Vw → St → Prop} {Q : Value → Vw → St → Prop} {x cd : Addr} {ch : Nat} {t t1 t2 : Tok}
theorem cs_new (kf : KF c) (hr : Room A 6) {sp : Addr} : T3 c A (PySem.call (.ref 442) [.ref sp]) P [] (fun v P' σ' => (∃ x, v = .ref x ∧ InP P' x 442 [(Str.ofString "spans", .ref sp)]) ∧ σ' = []) NoE := by
  let Q1 : KO Value := fun v P' σ' => (∃ x, v = .ref x ∧ InP P' x 442 [(Str.ofString "spans", .ref sp)]) ∧ σ' = []
  show T3 _ _ _ _ _ Q1 _
  refine T3.post (Q₁ := fun v P' σ' => ∃ x dx, v = .ref x ∧ P' x = some (instObj 442 dx) ∧ σ' = [(dx, IsF [(Str.ofString "spans", .ref sp)])]) ?_ ?_
  · refine T3.new (C := 442) (fI := 290) kf (by kernel_rfl) rfl (by kernel_rfl) fun x dx P1 l1 hx => ?_
    refine C3.d0 kf.f_CharSet___init__ [("spans", .ref sp), ("self", .ref x)] (Room.make (n := 4) hr).dep (fun _ _ _ _ _ _ => by kernel_rfl) (by kernel_rfl) fun L cdv => ?_
    refine T3.ss1 ?_
    refine T3.sAsg ?_ rfl rfl rfl; refine T3.nL (by kernel_rfl) rfl ?_; (with_reducible refine T3.aAttr ?_); refine T3.nL (by kernel_rfl) rfl ?_; refine T3.sFM (by assumption) (by with_reducible assumption) (by first | assumption | kernel_rfl) (by first | assumption | kernel_rfl) rfl (lit rfl) ?_; (with_reducible refine Nx.nx ?_; refine T3.ss0 ?_)
    exact Bk.mk0 ⟨rfl, x, dx, rfl, hx, rfl⟩
  · rintro _ P1 _ l1 hqa; refine e2x3 hqa ?_; clear hqa; rintro x dx hra hx hrb; subst hra; subst hrb
    exact Gs.freezeF (pre := []) hx fun P2 l2 hi => Gs.now ⟨⟨x, rfl, hi⟩, rfl⟩
theorem made_ (kf : KF c) (hr : Room A 9) {pl pr : Addr} (hp : TuP P pr [.int ch t1, .int ch t2]) (hc : ch ≤ 127) :
    T3 c A (PySem.call (.ref 345) [.ref pl]) P [(pl, IsLi [.ref pr])] (fun v P' σ' => (∃ x, v = .ref x ∧ CsP P' x ch) ∧ σ' = []) NoE := by
  let Q1 : KO Value := fun v P' σ' => (∃ x, v = .ref x ∧ CsP P' x ch) ∧ σ' = []
  show T3 _ _ _ _ _ Q1 _
  refine T3.d0 kf.f_CharSet_made [("pairs", .ref pl)] hr.dep (fun _ _ _ _ _ _ => by kernel_rfl) (by kernel_rfl) fun L cdv => ?_
  refine T3.freezeLi (pre := [_]) fun P1 l1 hl => ?_
  have hd : Room (A.deeper (mkE (fdS (clsS 22 6)) (Str.ofString "CharSet.made") L 345 cdv)) 8 := hr.deeper
  simp only [List.cons_append, List.nil_append, List.append_nil]
  refine T3.ss1 ?_
  refine T3.sAsg ?_ rfl rfl rfl; (with_reducible refine T3.lst ?_ rfl; refine T3.ar0 ?_); refine T3.newLi (lit rfl) ?_; intro _ _; (with_reducible refine T3.aName ?_); refine T3.st rfl ?_ (by kernel_rfl); (with_reducible refine Nx.nx ?_; refine T3.ss1 ?_); refine T3.sFor ?_ (fun _ => rfl); refine T3.nL (by kernel_rfl) rfl ?_
  rename_i kl _
  refine T3.itLi1 (J := fun P' σ' => ∃ m pr2 k1 k2, σ' = [(L, NsP m), (kl, IsLi [.ref pr2])] ∧ Has m [(Str.ofString "kept", .ref kl)] ∧ TuP P' pr2 [.int ch k1, .int ch k2]) hl hd.no ?_ ?_
  · refine T3.unp2 (Room.no (by assumption)) (by (with_reducible (apply TuP.le); (focus assumption); assumption)) ?_; (with_reducible refine T3.aName ?_); refine T3.st rfl ?_ (by kernel_rfl); (with_reducible refine T3.aName ?_); refine T3.st rfl ?_ (by kernel_rfl); (with_reducible refine T3.ss1 ?_); refine T3.sAsg ?_ rfl rfl rfl; (with_reducible refine T3.calln ?_ rfl); refine T3.nB (by assumption) (by kernel_rfl) (by boot_by_name) ?_; (with_reducible refine T3.cwB ?_; refine T3.ar1 ?_); refine T3.nL (by kernel_rfl) rfl ?_; (with_reducible refine T3.ar1 ?_); refine T3.cint ?_; intro _; (with_reducible refine T3.ar0 ?_); refine T3.iMax (Room.no (by assumption)) ?_; intro _; (with_reducible refine T3.aName ?_); refine T3.st rfl ?_ (by kernel_rfl); (with_reducible refine Nx.nx ?_; refine T3.ss1 ?_); refine T3.sAsg ?_ rfl rfl rfl; (with_reducible refine T3.calln ?_ rfl); refine T3.nB (by assumption) (by kernel_rfl) (by boot_by_name) ?_; (with_reducible refine T3.cwB ?_; refine T3.ar1 ?_); refine T3.nL (by kernel_rfl) rfl ?_; (with_reducible refine T3.ar1 ?_); refine T3.nG (by assumption) (by kernel_rfl) rfl ?_; (with_reducible refine T3.ar0 ?_); refine T3.iMin (Room.no (by assumption)) ?_; intro _; (with_reducible refine T3.aName ?_); refine T3.st rfl ?_ (by kernel_rfl); (with_reducible refine Nx.nx ?_; refine T3.ss1 ?_; refine T3.sIf ?_; refine T3.isCmp ?_ rfl); refine T3.nL (by kernel_rfl) rfl ?_; refine T3.nL (by kernel_rfl) rfl ?_; (with_reducible refine T3.iLe ?_; refine T3.truB ?_)
    have e1 : (if (0 : Int) > (ch : Int) then (0 : Int) else ch) = ch := if_neg (by omega)
    have e2 : (if (127 : Int) < (ch : Int) then (127 : Int) else ch) = ch := if_neg (by omega)
    rw [e1, e2]
    refine yes (by simp) ?_
    (with_reducible refine T3.ss1 ?_); refine T3.sExpr ?_ (by first | assumption | kernel_rfl) rfl; refine T3.callm ?_ rfl rfl rfl (lit rfl); refine T3.nL (by kernel_rfl) rfl ?_; refine T3.mLi F.slot_list_append F.type_list_append (List.mem_cons_of_mem _ List.mem_cons_self) ?_; (with_reducible refine T3.cwB1 ?_; refine T3.ar1 ?_; refine T3.tup ?_ rfl; refine T3.ar1 ?_); refine T3.nL (by kernel_rfl) rfl ?_; (with_reducible refine T3.ar1 ?_); refine T3.nL (by kernel_rfl) rfl ?_; (with_reducible refine T3.ar0 ?_); refine T3.newTu (lit rfl) ?_; intro _ _ _ _; (with_reducible refine T3.ar0 ?_)
    refine T3.lAppend (pre := [_]) (xs := []) (Nat.zero_le _) ?_
    simp only [List.cons_append, List.nil_append, List.append_nil]
    (with_reducible refine Nx.nx ?_; refine T3.ss0 ?_; refine Nx.nx ?_; refine T3.ss0 ?_)
    exact i4x3 _ _ _ _ rfl (by repeat (first | exact Has.nil | refine Has.cons rfl ?_)) (by assumption)
  · rintro P2 _ l2 hqa; refine e4x3 hqa ?_; clear hqa; rintro m pr2 k1 k2 hra hm hp2; subst hra
    refine T3.forget hm ?_
    (with_reducible refine T3.ss0 ?_; refine Nx.nx ?_; refine T3.ss1 ?_); refine T3.sAsg ?_ rfl rfl rfl; (with_reducible refine T3.lst ?_ rfl; refine T3.ar0 ?_); refine T3.newLi (lit rfl) ?_; intro _ _; (with_reducible refine T3.aName ?_); refine T3.st rfl ?_ (by kernel_rfl); (with_reducible refine Nx.nx ?_; refine T3.ss1 ?_); refine T3.sFor ?_ (fun _ => rfl); (with_reducible refine T3.calln ?_ rfl); refine T3.nB (by assumption) (by kernel_rfl) (by boot_by_name) ?_; (with_reducible refine T3.cwB ?_; refine T3.ar1 ?_); refine T3.nL (by kernel_rfl) rfl ?_; (with_reducible refine T3.ar0 ?_)
    rename_i sl _
    refine T3.freezeLi (pre := [_, _]) fun P3 l3 hk => ?_
    simp only [List.cons_append, List.nil_append, List.append_nil]
    refine T3.lSort1 hk fun sd P4 l4 hs => ?_
    refine T3.itLi1 (J := fun P' σ' => ∃ m pr3 k1 k2, σ' = [(L, NsP m), (sl, IsLi [.ref pr3])] ∧ Has m [(Str.ofString "spans", .ref sl)] ∧ TuP P' pr3 [.int ch k1, .int ch k2]) hs hd.no ?_ ?_
    · refine T3.unp2 (Room.no (by assumption)) (by (with_reducible (apply TuP.le); (focus assumption); (apply TuP.le); (focus assumption); assumption)) ?_; (with_reducible refine T3.aName ?_); refine T3.st rfl ?_ (by kernel_rfl); (with_reducible refine T3.aName ?_); refine T3.st rfl ?_ (by kernel_rfl); (with_reducible refine T3.ss1 ?_; refine T3.sIf ?_; refine T3.isBool ?_; refine T3.and1 ?_); refine T3.isT rfl ?_; refine T3.nL (by kernel_rfl) rfl ?_
      refine T3.lTruth (xs := []) (by exact (List.mem_cons_of_mem _ List.mem_cons_self)) (Nat.zero_le _) ?_
      (with_reducible refine no rfl ?_; refine no rfl ?_; refine T3.ss1 ?_); refine T3.sExpr ?_ (by first | assumption | kernel_rfl) rfl; refine T3.callm ?_ rfl rfl rfl (lit rfl); refine T3.nL (by kernel_rfl) rfl ?_; refine T3.mLi F.slot_list_append F.type_list_append (List.mem_cons_of_mem _ List.mem_cons_self) ?_; (with_reducible refine T3.cwB1 ?_; refine T3.ar1 ?_; refine T3.tup ?_ rfl; refine T3.ar1 ?_); refine T3.nL (by kernel_rfl) rfl ?_; (with_reducible refine T3.ar1 ?_); refine T3.nL (by kernel_rfl) rfl ?_; (with_reducible refine T3.ar0 ?_); refine T3.newTu (lit rfl) ?_; intro _ _ _ _; (with_reducible refine T3.ar0 ?_)
      refine T3.lAppend (pre := [_]) (xs := []) (Nat.zero_le _) ?_
      simp only [List.cons_append, List.nil_append, List.append_nil]
      (with_reducible refine Nx.nx ?_; refine T3.ss0 ?_; refine Nx.nx ?_; refine T3.ss0 ?_)
      exact i4x3 _ _ _ _ rfl (by repeat (first | exact Has.nil | refine Has.cons rfl ?_)) (by assumption)
    · rintro P5 _ l5 hqa; refine e4x3 hqa ?_; clear hqa; rintro m pr3 k1 k2 hra hm hp3; subst hra
      refine T3.forget hm ?_
      (with_reducible refine T3.ss0 ?_; refine Nx.nx ?_; refine T3.ss1 ?_; refine T3.sRet ?_; refine T3.calln ?_ rfl); refine T3.nG (by assumption) (by kernel_rfl) rfl ?_; refine T3.cwC (by assumption) rfl ?_; (with_reducible refine T3.ar1 ?_; refine T3.calln ?_ rfl); refine T3.nB (by assumption) (by kernel_rfl) (by boot_by_name) ?_; (with_reducible refine T3.cwT ?_; refine T3.ar1 ?_); refine T3.nL (by kernel_rfl) rfl ?_; (with_reducible refine T3.ar0 ?_)
      refine T3.freezeLi (pre := [_]) fun P6 l6 hf => ?_
      simp only [List.cons_append, List.nil_append, List.append_nil]
      refine T3.tupOf hf (lit rfl) fun sp P7 l7 ht => ?_
      (with_reducible refine T3.ar0 ?_)
      refine T3.fr0 (cs_new kf (by exact Room.le (by assumption) (lit rfl))) ?_ ?_
      · rintro _ P8 l8 hqa; obtain ⟨hqb, _⟩ := hqa; refine e1x2 hqb ?_; clear hqb; rintro y hra hy; subst hra
        (with_reducible refine Nx.ret ?_)
        exact Bk.mk ⟨⟨y, rfl, sp, hy, pr3, k1, k2, ht.le l8, ((hp3.le l6).le l7).le l8⟩, rfl⟩
      · rintro _ _ _ ⟨_, h⟩; exact h
theorem of_ (kf : KF c) (hr : Room A 11) (hc : ch ≤ 127) : T3 c A (PySem.call (.ref 325) [.str (S [ch]) t]) P [] (fun v P' σ' => (∃ x, v = .ref x ∧ CsP P' x ch) ∧ σ' = []) NoE := by
  let Q1 : KO Value := fun v P' σ' => (∃ x, v = .ref x ∧ CsP P' x ch) ∧ σ' = []
  show T3 _ _ _ _ _ Q1 _
  refine T3.d0 kf.f_CharSet_of [("text", .str (S [ch]) t)] hr.dep (fun _ _ _ _ _ _ => by kernel_rfl) (by kernel_rfl) fun L cdv => ?_
  have hd : Room (A.deeper (mkE (fdS (clsS 22 4)) (Str.ofString "CharSet.of") L 325 cdv)) 10 := hr.deeper
  refine T3.ss1 ?_
  (with_reducible refine T3.sRet ?_); refine T3.callm ?_ rfl rfl rfl (lit rfl); refine T3.nG (by assumption) (by kernel_rfl) rfl ?_; refine T3.mSt (by assumption) rfl ?_; refine T3.cw0 (by assumption) rfl ?_; (with_reducible refine T3.ar1 ?_)
  refine T3.eLC (cl := []) hd.no (fun _ => rfl) rfl (by kernel_rfl) rfl (by kernel_rfl) rfl ?_
  refine T3.nL (by kernel_rfl) rfl ?_
  refine ⟨1, _, fun i y P' => ∃ pr k1 k2, y = .ref pr ∧ TuP P' pr [.int ch k1, .int ch k2], ⟨ItK.str (ws := [ch]) (by simp; omega), lit rfl, ?_, ?_, ?_⟩⟩
  · rintro i y P2 P3 l hqa; refine e3x2 hqa ?_; clear hqa; rintro pr k1 k2 e h
    exact i3x2 pr k1 k2 e (h.le l)
  · rintro C i v P2 l hi hqa; refine e2x2 hqa ?_; clear hqa; rintro ch' t' h1 hra; subst hra
    obtain rfl : i = 0 := by omega
    obtain rfl : ch = ch' := by simpa using h1
    (with_reducible refine T3.tup ?_ rfl; refine T3.ar1 ?_; refine T3.calln ?_ rfl); refine T3.nB (by assumption) (by kernel_rfl) (by boot_by_name) ?_; (with_reducible refine T3.cwB ?_; refine T3.ar1 ?_); refine T3.nL (by kernel_rfl) rfl ?_; (with_reducible refine T3.ar0 ?_); refine T3.cOrd ?_; intro _; (with_reducible refine T3.ar1 ?_; refine T3.calln ?_ rfl); refine T3.nB (by assumption) (by kernel_rfl) (by boot_by_name) ?_; (with_reducible refine T3.cwB ?_; refine T3.ar1 ?_); refine T3.nL (by kernel_rfl) rfl ?_; (with_reducible refine T3.ar0 ?_); refine T3.cOrd ?_; intro _; (with_reducible refine T3.ar0 ?_); refine T3.newTu (lit rfl) ?_; intro _ _ _ _
    exact ⟨rfl, i3x2 _ _ _ rfl (by assumption)⟩
  · intro D ys P2 l hl hF
    obtain ⟨y, rfl⟩ : ∃ y, ys = [y] := List.length_eq_one_iff.mp hl
    refine e3x2 (hF 0 y rfl) ?_; rintro pr k1 k2 hra hp; subst hra
    show T3 c _ _ _ _ _ _
    (with_reducible refine T3.ar0 ?_)
    refine T3.fr1 (made_ kf (by exact Room.le (by assumption) (lit rfl)) hp hc) ?_
    rintro _ P3 _ l3 hqa; obtain ⟨hqb, rfl⟩ := hqa; refine e1x2 hqb ?_; clear hqb; rintro z hra hz; subst hra
    simp only [List.cons_append, List.nil_append, List.append_nil]
    (with_reducible refine Nx.ret ?_)
    exact Bk.mk ⟨⟨z, rfl, hz⟩, rfl⟩
theorem span_ (kf : KF c) (hr : Room A 11) (hc : ch ≤ 127) {t' : Tok} : T3 c A (PySem.call (.ref 335) [.int ch t, .int ch t']) P [] (fun v P' σ' => (∃ x, v = .ref x ∧ CsP P' x ch) ∧ σ' = []) NoE := by
  let Q1 : KO Value := fun v P' σ' => (∃ x, v = .ref x ∧ CsP P' x ch) ∧ σ' = []
  show T3 _ _ _ _ _ Q1 _
  refine T3.d0 kf.f_CharSet_span [("high", .int ch t'), ("low", .int ch t)] hr.dep (fun _ _ _ _ _ _ => by kernel_rfl) (by kernel_rfl) fun L cdv => ?_
  refine T3.ss1 ?_
  (with_reducible refine T3.sRet ?_); refine T3.callm ?_ rfl rfl rfl (lit rfl); refine T3.nG (by assumption) (by kernel_rfl) rfl ?_; refine T3.mSt (by assumption) rfl ?_; refine T3.cw0 (by assumption) rfl ?_; (with_reducible refine T3.ar1 ?_; refine T3.lst ?_ rfl; refine T3.ar1 ?_; refine T3.tup ?_ rfl; refine T3.ar1 ?_); refine T3.nL (by kernel_rfl) rfl ?_; (with_reducible refine T3.ar1 ?_); refine T3.nL (by kernel_rfl) rfl ?_; (with_reducible refine T3.ar0 ?_); refine T3.newTu (lit rfl) ?_; intro _ _ _ _; (with_reducible refine T3.ar0 ?_); refine T3.newLi (lit rfl) ?_; intro _ _; (with_reducible refine T3.ar0 ?_)
  refine T3.fr1 (made_ kf (by exact Room.le (Room.deeper (by assumption)) (lit rfl)) (by assumption) hc) ?_
  rintro _ P3 _ l3 hqa; obtain ⟨hqb, rfl⟩ := hqa; refine e1x2 hqb ?_; clear hqb; rintro z hra hz; subst hra
  simp only [List.cons_append, List.nil_append, List.append_nil]
  (with_reducible refine Nx.ret ?_)
  exact Bk.mk ⟨⟨z, rfl, hz⟩, rfl⟩
end
section
variable {c : Cx} {A : Around} {P : Vw} {σ : St} {E : Value → Vw → St → Prop} {Q : Value → Vw → St → Prop} {ch : Nat} {l r : Tr} {a b s : Addr}
theorem chars_new (kf : KF c) (hr : Room A 6) (hs : CsP P s ch) : T3 c A (PySem.call (.ref 543) [.ref s]) P [] (fun v P' σ' => Node P' v (.chr ch) ∧ σ' = []) NoE := by
  let Q1 : KO Value := fun v P' σ' => Node P' v (.chr ch) ∧ σ' = []
  show T3 _ _ _ _ _ Q1 _
  refine T3.post (Q₁ := fun v P' σ' => Le P P' ∧ ∃ x dx, v = .ref x ∧ P' x = some (instObj 543 dx) ∧ σ' = [(dx, IsF [(Str.ofString "charset", .ref s)])]) ?_ ?_
  · refine T3.new (C := 543) (fI := 533) kf (by kernel_rfl) rfl (by kernel_rfl) fun x dx P1 l1 hx => ?_
    refine C3.d0 kf.f_Chars___init__ [("charset", .ref s), ("self", .ref x)] (Room.make (n := 4) hr).dep (fun _ _ _ _ _ _ => by kernel_rfl) (by kernel_rfl) fun L cdv => ?_
    refine T3.ss1 ?_
    refine T3.sAsg ?_ rfl rfl rfl; refine T3.nL (by kernel_rfl) rfl ?_; (with_reducible refine T3.aAttr ?_); refine T3.nL (by kernel_rfl) rfl ?_; refine T3.sFM (by assumption) (by with_reducible assumption) (by first | assumption | kernel_rfl) (by first | assumption | kernel_rfl) rfl (lit rfl) ?_; (with_reducible refine Nx.nx ?_; refine T3.ss0 ?_)
    exact Bk.mk0 ⟨rfl, l1, x, dx, rfl, hx, rfl⟩
  · rintro _ P1 _ l1 hqa; obtain ⟨l0, hqb⟩ := hqa; refine e2x3 hqb ?_; clear hqb; rintro x dx hra hx hrb; subst hra; subst hrb
    exact Gs.freezeF (pre := []) hx fun P2 l2 hi => Gs.now ⟨⟨x, s, rfl, hi, (hs.le l0).le l2⟩, rfl⟩
theorem cat_new (kf : KF c) (hr : Room A 6) (hl : Node P (.ref a) l) (hh : Node P (.ref b) r) : T3 c A (PySem.call (.ref 588) [.ref a, .ref b]) P [] (fun v P' σ' => Node P' v (.cat l r) ∧ σ' = []) NoE := by
  let Q1 : KO Value := fun v P' σ' => Node P' v (.cat l r) ∧ σ' = []
  show T3 _ _ _ _ _ Q1 _
  refine T3.post (Q₁ := fun v P' σ' => Le P P' ∧ ∃ x dx, v = .ref x ∧ P' x = some (instObj 588 dx) ∧ σ' = [(dx, IsF [(Str.ofString "left", .ref a), (Str.ofString "right", .ref b)])]) ?_ ?_
  · refine T3.new (C := 588) (fI := 559) kf (by kernel_rfl) rfl (by kernel_rfl) fun x dx P1 l1 hx => ?_
    refine C3.d0 kf.f_Pair___init__ [("right", .ref b), ("left", .ref a), ("self", .ref x)] (Room.make (n := 4) hr).dep (fun _ _ _ _ _ _ => by kernel_rfl) (by kernel_rfl) fun L cdv => ?_
    refine T3.ss1 ?_
    refine T3.sAsg ?_ rfl rfl rfl; refine T3.nL (by kernel_rfl) rfl ?_; (with_reducible refine T3.aAttr ?_); refine T3.nL (by kernel_rfl) rfl ?_; refine T3.sFM (by assumption) (by with_reducible assumption) (by first | assumption | kernel_rfl) (by first | assumption | kernel_rfl) rfl (lit rfl) ?_; (with_reducible refine Nx.nx ?_; refine T3.ss1 ?_); refine T3.sAsg ?_ rfl rfl rfl; refine T3.nL (by kernel_rfl) rfl ?_; (with_reducible refine T3.aAttr ?_); refine T3.nL (by kernel_rfl) rfl ?_; refine T3.sFM (by assumption) (by with_reducible assumption) (by first | assumption | kernel_rfl) (by first | assumption | kernel_rfl) rfl (lit rfl) ?_; (with_reducible refine Nx.nx ?_; refine T3.ss0 ?_)
    exact Bk.mk0 ⟨rfl, l1, x, dx, rfl, hx, rfl⟩
  · rintro _ P1 _ l1 hqa; obtain ⟨l0, hqb⟩ := hqa; refine e2x3 hqb ?_; clear hqb; rintro x dx hra hx hrb; subst hra; subst hrb
    exact Gs.freezeF (pre := []) hx fun P2 l2 hi => Gs.now ⟨⟨x, a, b, rfl, hi, (hl.le l0).le l2, (hh.le l0).le l2⟩, rfl⟩
theorem alt_new (kf : KF c) (hr : Room A 6) (hl : Node P (.ref a) l) (hh : Node P (.ref b) r) : T3 c A (PySem.call (.ref 600) [.ref a, .ref b]) P [] (fun v P' σ' => Node P' v (.alt l r) ∧ σ' = []) NoE := by
  let Q1 : KO Value := fun v P' σ' => Node P' v (.alt l r) ∧ σ' = []
  show T3 _ _ _ _ _ Q1 _
  refine T3.post (Q₁ := fun v P' σ' => Le P P' ∧ ∃ x dx, v = .ref x ∧ P' x = some (instObj 600 dx) ∧ σ' = [(dx, IsF [(Str.ofString "left", .ref a), (Str.ofString "right", .ref b)])]) ?_ ?_
  · refine T3.new (C := 600) (fI := 559) kf (by kernel_rfl) rfl (by kernel_rfl) fun x dx P1 l1 hx => ?_
    refine C3.d0 kf.f_Pair___init__ [("right", .ref b), ("left", .ref a), ("self", .ref x)] (Room.make (n := 4) hr).dep (fun _ _ _ _ _ _ => by kernel_rfl) (by kernel_rfl) fun L cdv => ?_
    refine T3.ss1 ?_
    refine T3.sAsg ?_ rfl rfl rfl; refine T3.nL (by kernel_rfl) rfl ?_; (with_reducible refine T3.aAttr ?_); refine T3.nL (by kernel_rfl) rfl ?_; refine T3.sFM (by assumption) (by with_reducible assumption) (by first | assumption | kernel_rfl) (by first | assumption | kernel_rfl) rfl (lit rfl) ?_; (with_reducible refine Nx.nx ?_; refine T3.ss1 ?_); refine T3.sAsg ?_ rfl rfl rfl; refine T3.nL (by kernel_rfl) rfl ?_; (with_reducible refine T3.aAttr ?_); refine T3.nL (by kernel_rfl) rfl ?_; refine T3.sFM (by assumption) (by with_reducible assumption) (by first | assumption | kernel_rfl) (by first | assumption | kernel_rfl) rfl (lit rfl) ?_; (with_reducible refine Nx.nx ?_; refine T3.ss0 ?_)
    exact Bk.mk0 ⟨rfl, l1, x, dx, rfl, hx, rfl⟩
  · rintro _ P1 _ l1 hqa; obtain ⟨l0, hqb⟩ := hqa; refine e2x3 hqb ?_; clear hqb; rintro x dx hra hx hrb; subst hra; subst hrb
    exact Gs.freezeF (pre := []) hx fun P2 l2 hi => Gs.now ⟨⟨x, a, b, rfl, hi, (hl.le l0).le l2, (hh.le l0).le l2⟩, rfl⟩
theorem loop_init (kf : KF c) (hr : Room A 4) {x dx C : Addr} (hx : P x = some (instObj C dx)) (hC : clsTab.contains C = true) (hi : instTab.contains (C, Str.ofString "body") = true) :
    C3 c A (.call (.ref 616) ⟨[.ref x, .ref a], []⟩) P [(dx, IsF [])] (Ret (fun v P' σ' => v = .none ∧ Le P P' ∧ σ' = [(dx, IsF [(Str.ofString "body", .ref a)])]) NoE) := by
  refine C3.d0 kf.f_Loop___init__ [("body", .ref a), ("self", .ref x)] hr.dep (fun _ _ _ _ _ _ => by kernel_rfl) (by kernel_rfl) fun L cdv => ?_
  refine T3.ss1 ?_
  refine T3.sAsg ?_ rfl rfl rfl; refine T3.nL (by kernel_rfl) rfl ?_; (with_reducible refine T3.aAttr ?_); refine T3.nL (by kernel_rfl) rfl ?_; refine T3.sFM (by assumption) (by with_reducible assumption) (by first | assumption | kernel_rfl) (by first | assumption | kernel_rfl) rfl (lit rfl) ?_; (with_reducible refine Nx.nx ?_; refine T3.ss0 ?_)
  exact Bk.mk0 ⟨rfl, Le.refl _, rfl⟩
theorem loop_new (kf : KF c) (hr : Room A 6) (k : LK) (hl : Node P (.ref a) l) : T3 c A (PySem.call (.ref k.cls) [.ref a]) P [] (fun v P' σ' => Node P' v (.loop k l) ∧ σ' = []) NoE := by
  let Q1 : KO Value := fun v P' σ' => Node P' v (.loop k l) ∧ σ' = []
  show T3 _ _ _ _ _ Q1 _
  refine T3.post (Q₁ := fun v P' σ' => Le P P' ∧ ∃ x dx, v = .ref x ∧ P' x = some (instObj k.cls dx) ∧ σ' = [(dx, IsF [(Str.ofString "body", .ref a)])]) ?_ ?_
  · have key : ∀ (C : Addr), clsTab.contains C = true → instTab.contains (C, Str.ofString "body") = true → methTab.lookup (C, Str.ofString "__init__") = some 616 → T3 c A (PySem.call (.ref C) [.ref a]) P [] (fun v P' σ' => Le P P' ∧ ∃ x dx, v = .ref x ∧ P' x = some (instObj C dx) ∧ σ' = [(dx, IsF [(Str.ofString "body", .ref a)])]) NoE := fun C h1 h2 h3 => by
      refine T3.new kf h1 h3 (by kernel_rfl) fun x dx P1 l1 hx => ?_
      refine (loop_init kf (Room.make (n := 4) hr) hx h1 h2).mono fun r P' σ' l2 q => ?_
      rcases r with e | (_ | _ | _ | v)
      · exact q
      · exact q
      · exact q
      · exact q
      · exact ⟨q.1, l1.trans l2, i2x3 x dx rfl (l2 _ _ hx) q.2.2⟩
    cases k
    · exact key 645 rfl rfl rfl
    · exact key 657 rfl rfl rfl
    · exact key 669 rfl rfl rfl
  · rintro _ P1 _ l1 hqa; obtain ⟨l0, hqb⟩ := hqa; refine e2x3 hqb ?_; clear hqb; rintro x dx hra hx hrb; subst hra; subst hrb
    exact Gs.freezeF (pre := []) hx fun P2 l2 hi => Gs.now ⟨⟨x, a, rfl, hi, (hl.le l0).le l2⟩, rfl⟩
theorem emp_new (kf : KF c) (hr : Room A 6) : T3 c A (PySem.call (.ref 505) []) P [] (fun v P' σ' => Node P' v .emp ∧ σ' = []) NoE :=
  T3.new0 kf (kf.mkC 505 (by kernel_rfl)).1 kf.noinit fun x P' l h => ⟨⟨x, rfl, h⟩, rfl⟩
end
/-! spines -/
noncomputable def Tr.sz : Tr → Nat
  | .chr _ => 1 | .emp => 1 | .cat l r => l.sz + r.sz + 1 | .alt l r => l.sz + r.sz + 1 | .loop _ b => b.sz + 1
noncomputable def Tr.ht : Tr → Nat
  | .chr _ => 1 | .emp => 1 | .cat l r => max l.ht r.ht + 1 | .alt l r => max l.ht r.ht + 1 | .loop _ b => b.ht + 1
noncomputable def Tr.nm : Tr → Str | .chr _ => Str.ofString "chars" | .emp => Str.ofString "empty" | .cat .. => Str.ofString "cat" | .alt .. => Str.ofString "alt" | .loop k _ => k.nm
noncomputable def LK.tk : LK → Tok | .star => 1137 | .plus => 1155 | .opt => 1173
noncomputable def Tr.tk : Tr → Tok | .chr _ => 984 | .emp => 948 | .cat .. => 1062 | .alt .. => 1080 | .loop k _ => k.tk
noncomputable def Tr.cls : Tr → Addr | .chr _ => 543 | .emp => 505 | .cat .. => 588 | .alt .. => 600 | .loop k _ => k.cls
noncomputable def Tr.toldF : Tr → Addr | .chr _ => 540 | .emp => 488 | .cat .. => 573 | .alt .. => 573 | .loop .. => 630
inductive PK | cat | alt
deriving DecidableEq
noncomputable def mkp : PK → Tr → Tr → Tr | .cat, l, r => .cat l r | .alt, l, r => .alt l r
noncomputable def spl (k : PK) : Tr → List Tr
  | .cat l r => match k with | .cat => spl .cat l ++ [r] | .alt => [.cat l r]
  | .alt l r => match k with | .alt => spl .alt l ++ [r] | .cat => [.alt l r]
  | t => [t]
theorem spl_mkp (k : PK) (l r : Tr) : spl k (mkp k l r) = spl k l ++ [r] := by cases k <;> rfl
theorem mkp_nm (k : PK) (l r : Tr) : (mkp k l r).nm = match k with | .cat => Str.ofString "cat" | .alt => Str.ofString "alt" := by cases k <;> rfl
inductive Nodes (P : Vw) : List Value → List Tr → Prop
  | nil : Nodes P [] []
  | cons {v t vs ts} (h : Node P v t) (r : Nodes P vs ts) : Nodes P (v :: vs) (t :: ts)
theorem Nodes.le {P P' : Vw} (q : Le P P') {vs : List Value} {ts : List Tr} (h : Nodes P vs ts) : Nodes P' vs ts := by
  induction h with
  | nil => exact .nil
  | cons h _ ih => exact .cons (h.le q) ih
theorem Nodes.app {P : Vw} {vs us : List Value} {ts rs : List Tr} (h : Nodes P vs ts) (g : Nodes P us rs) : Nodes P (vs ++ us) (ts ++ rs) := by
  induction h with
  | nil => exact g
  | cons h _ ih => exact .cons h ih
theorem Nodes.rev {P : Vw} {vs : List Value} {ts : List Tr} (h : Nodes P vs ts) : Nodes P vs.reverse ts.reverse := by
  induction h with
  | nil => exact .nil
  | cons h _ ih => rw [List.reverse_cons, List.reverse_cons]; exact ih.app (.cons h .nil)
theorem Nodes.len {P : Vw} {vs : List Value} {ts : List Tr} (h : Nodes P vs ts) : vs.length = ts.length := by
  induction h with
  | nil => rfl
  | cons _ _ ih => simp [ih]
theorem Nodes.at {P : Vw} {vs : List Value} {ts : List Tr} (h : Nodes P vs ts) : ∀ {i : Nat} {v : Value}, vs[i]? = some v → ∃ t, ts[i]? = some t ∧ Node P v t := by
  induction h with
  | nil => intro i v e; simp at e
  | cons h _ ih =>
    intro i v e
    cases i with
    | zero => obtain rfl : _ = v := by simpa using e; 
              exact i1x2 _ rfl h
    | succ i => exact ih (by simpa using e)
section
variable {c : Cx} {A : Around} {P : Vw} {σ : St} {E : Value → Vw → St → Prop} {env : Env} {Q : Value → Vw → St → Prop} {t : Tr} {x : Addr} {b : Bool}
theorem Node.inst (h : Node P (.ref x) t) : ∃ fs, InP P x t.cls fs ∧ fs.lookup (Str.ofString "name") = none ∧ fs.lookup (Str.ofString "told") = none := by
  cases t with
  | chr ch => obtain ⟨y, s, e, h1, _⟩ := h; cases e; exact ⟨_, h1, rfl, rfl⟩
  | emp => obtain ⟨y, e, h1⟩ := h; cases e; exact ⟨_, h1, rfl, rfl⟩
  | cat l r => obtain ⟨y, a, b, e, h1, _⟩ := h; cases e; exact ⟨_, h1, rfl, rfl⟩
  | alt l r => obtain ⟨y, a, b, e, h1, _⟩ := h; cases e; exact ⟨_, h1, rfl, rfl⟩
  | loop k l => obtain ⟨y, a, e, h1, _⟩ := h; cases e; exact ⟨_, h1, rfl, rfl⟩
theorem Tr.loopOr (t : Tr) : (∃ k b, t = .loop k b) ∨ ∀ k b, t ≠ .loop k b := by
  cases t <;> first | exact .inl ⟨_, _, rfl⟩ | exact .inr fun _ _ e => by cases e
theorem Tr.noLoop {t : Tr} (h : ∀ k b, t ≠ .loop k b) : t.cls ≠ 633 ∧ [505, 543, 588, 600].contains t.cls = true := by
  cases t with
  | loop k b => exact absurd rfl (h k b)
  | _ => exact ⟨Nat.ne_of_beq_eq_false rfl, rfl⟩
theorem Tr.inTab (t : Tr) : clsTab.contains t.cls = true ∧ constTab.lookup (t.cls, Str.ofString "name") = some (.str t.nm t.tk) ∧ methTab.lookup (t.cls, Str.ofString "told") = some t.toldF ∧ fnList.contains t.toldF = true := by
  cases t with
  | loop k l => cases k <;> exact ⟨rfl, rfl, rfl, rfl⟩
  | _ => exact ⟨rfl, rfl, rfl, rfl⟩
theorem T3.name (kf : KF c) (h : Node P (.ref x) t) (q : Q (.str t.nm t.tk) P σ) : T3 c A (getAttr (.ref x) (Str.ofString "name") b) P σ Q E := by
  refine e1x3 (h.inst) ?_; rintro fs h1 h2 _
  exact T3.gC kf h1 t.inTab.1 t.inTab.2.1 h2 rfl (by kernel_rfl) q
theorem T3.told (kf : KF c) {es : List Expr} {pl : Sem Bool} {p2 : Pos} (h : Node P (.ref x) t) (q : T3 c A (PySem.callWith p2 (.ref t.toldF) [.ref x] (argTs es env) []) P σ Q E) :
    T3 c A (getMethod (.ref x) (Str.ofString "told") pl) P σ (fun fm P2 σ2 => T3 c A (PySem.callWith p2 fm.1 fm.2 (argTs es env) []) P2 σ2 Q E) E := by
  refine e1x3 (h.inst) ?_; rintro fs h1 _ h2
  exact T3.mFI kf h1 t.inTab.1 t.inTab.2.2.1 t.inTab.2.2.2 h2 q
theorem isP (t : Tr) (k : PK) (l r : Tr) : (∃ l' r', t = mkp k l' r') ∨ ((t.nm == (mkp k l r).nm) = false ∧ spl k t = [t]) := by
  cases k <;> cases t <;> first | exact .inl ⟨_, _, rfl⟩ | (rename_i q _; cases q <;> exact .inr ⟨by kernel_rfl, rfl⟩) | exact .inr ⟨by kernel_rfl, rfl⟩
theorem spine_ (kf : KF c) (hr : Room A 3) (k : PK) {l r : Tr} (h : Node P (.ref x) (mkp k l r)) (hz : (mkp k l r).sz ≤ 10000) :
    T3 c A (PySem.call (.ref 704) [.ref x]) P [] (fun v P' σ' => (∃ a xs, v = .ref a ∧ LiP P' a xs ∧ Nodes P' xs (spl k (mkp k l r))) ∧ σ' = []) NoE := by
  let Q1 : KO Value := fun v P' σ' => (∃ a xs, v = .ref a ∧ LiP P' a xs ∧ Nodes P' xs (spl k (mkp k l r))) ∧ σ' = []
  show T3 _ _ _ _ _ Q1 _
  refine T3.post (Q₁ := fun v P' σ' => ∃ a xs, v = .ref a ∧ σ' = [(a, IsLi xs)] ∧ Nodes P' xs (spl k (mkp k l r))) ?_ ?_
  · refine T3.d0 kf.f_spine [("node", .ref x)] hr.dep (fun _ _ _ _ _ _ => by kernel_rfl) (by kernel_rfl) fun L cdv => ?_
    refine T3.ss1 ?_
    refine T3.sAsg ?_ rfl rfl rfl; (with_reducible refine T3.lst ?_ rfl; refine T3.ar0 ?_); refine T3.newLi (lit rfl) ?_; intro _ _; (with_reducible refine T3.aName ?_); refine T3.st rfl ?_ (by kernel_rfl); (with_reducible refine Nx.nx ?_; refine T3.ss1 ?_); refine T3.sAsg ?_ rfl rfl rfl; refine T3.nL (by kernel_rfl) rfl ?_; (with_reducible refine T3.aName ?_); refine T3.st rfl ?_ (by kernel_rfl); (with_reducible refine Nx.nx ?_; refine T3.ss1 ?_; refine T3.sWhile ?_)
    rename_i pl _
    let I1 : Tr → Vw → St → Prop := fun t P' σ' => ∃ y m xs ys, Node P' (.ref y) t ∧ σ' = [(L, NsP m), (pl, IsLi xs)] ∧ Has m [(Str.ofString "here", .ref y), (Str.ofString "parts", .ref pl), (Str.ofString "node", .ref x)] ∧ Nodes P' xs ys ∧ spl k t ++ ys.reverse = spl k (mkp k l r) ∧ t.sz + xs.length ≤ 10000
    refine C3.whileM Tr.sz I1 ?_ (mkp k l r)
      ⟨x, _, [], [], h, rfl, by repeat (first | exact Has.nil | refine Has.cons rfl ?_), .nil, by simp, by simpa using hz⟩
    rintro t P1 _ l1 hqa; refine e4x6 hqa ?_; clear hqa; rintro y m xs ys hn hra hm hns hsp hsz; subst hra
    refine T3.forget hm ?_
    (with_reducible refine T3.isBool ?_; refine T3.and1 ?_; refine T3.isCmp ?_ rfl; refine T3.attr ?_ rfl); refine T3.nL (by kernel_rfl) rfl ?_
    refine T3.name kf hn ?_
    (with_reducible refine T3.attr ?_ rfl); refine T3.nL (by kernel_rfl) rfl ?_
    refine T3.name kf (h.le l1) ?_
    (with_reducible refine T3.sEq ?_; refine T3.truB ?_)
    rcases isP t k l r with ⟨l', r', rfl⟩ | ⟨hne, hs1⟩
    · refine yes (by rw [mkp_nm, mkp_nm]; exact beq_self_eq_true _) ?_
      cases k
      · refine e3x4 (hn) ?_; rintro _ a b e hi ha hb
        cases e
        (with_reducible refine T3.and1 ?_; refine T3.isBool ?_; refine T3.or1 ?_; refine T3.isCmp ?_ rfl; refine T3.attr ?_ rfl); refine T3.nL (by kernel_rfl) rfl ?_; refine T3.gC (by assumption) (by with_reducible assumption) (by first | assumption | kernel_rfl) rfl rfl rfl (by kernel_rfl) ?_; refine T3.cstr ?_; intro _; (with_reducible refine T3.sEq ?_; refine T3.truB ?_; refine yes rfl ?_; refine yes rfl ?_; refine T3.and0 ?_; refine yes rfl ?_; refine T3.ss1 ?_); refine T3.sExpr ?_ (by first | assumption | kernel_rfl) rfl; refine T3.callm ?_ rfl rfl rfl (lit rfl); refine T3.nL (by kernel_rfl) rfl ?_; refine T3.mLi F.slot_list_append F.type_list_append (List.mem_cons_of_mem _ List.mem_cons_self) ?_; (with_reducible refine T3.cwB1 ?_; refine T3.ar1 ?_; refine T3.attr ?_ rfl); refine T3.nL (by kernel_rfl) rfl ?_; refine T3.gI (by assumption) (by with_reducible assumption) (by first | assumption | kernel_rfl) (by kernel_rfl) rfl (by first | rfl | assumption) ?_; (with_reducible refine T3.ar0 ?_)
        refine T3.lAppend (pre := [_]) (by rw [sizeLine_eq]; omega) ?_
        simp only [List.cons_append, List.nil_append, List.append_nil]
        (with_reducible refine Nx.nx ?_; refine T3.ss1 ?_); refine T3.sAsg ?_ rfl rfl rfl; (with_reducible refine T3.attr ?_ rfl); refine T3.nL (by kernel_rfl) rfl ?_; refine T3.gI (by assumption) (by with_reducible assumption) (by first | assumption | kernel_rfl) (by kernel_rfl) rfl (by first | rfl | assumption) ?_; (with_reducible refine T3.aName ?_); refine T3.st rfl ?_ (by kernel_rfl); (with_reducible refine Nx.nx ?_; refine T3.ss0 ?_)
        refine ⟨l', by show _ < l'.sz + r'.sz + 1; omega, i4x6 a _ _ (ys ++ [r']) ha rfl (by repeat (first | exact Has.nil | refine Has.cons rfl ?_)) (hns.app (.cons hb .nil)) ?_ ?_⟩
        · rw [← hsp, spl_mkp]; simp
        · have : l'.sz + r'.sz + 1 + xs.length ≤ 10000 := hsz
          have h0 : 0 < r'.sz := by cases r' <;> simp [Tr.sz]
          simp; omega
      · refine e3x4 (hn) ?_; rintro _ a b e hi ha hb
        cases e
        (with_reducible refine T3.and1 ?_; refine T3.isBool ?_; refine T3.or1 ?_; refine T3.isCmp ?_ rfl; refine T3.attr ?_ rfl); refine T3.nL (by kernel_rfl) rfl ?_; refine T3.gC (by assumption) (by with_reducible assumption) (by first | assumption | kernel_rfl) rfl rfl rfl (by kernel_rfl) ?_; refine T3.cstr ?_; intro _; (with_reducible refine T3.sEq ?_; refine T3.truB ?_; refine no rfl ?_; refine T3.or1 ?_; refine T3.isCmp ?_ rfl; refine T3.attr ?_ rfl); refine T3.nL (by kernel_rfl) rfl ?_; refine T3.gC (by assumption) (by with_reducible assumption) (by first | assumption | kernel_rfl) rfl rfl rfl (by kernel_rfl) ?_; refine T3.cstr ?_; intro _; (with_reducible refine T3.sEq ?_; refine T3.truB ?_; refine yes rfl ?_; refine yes rfl ?_; refine T3.and0 ?_; refine yes rfl ?_; refine T3.ss1 ?_); refine T3.sExpr ?_ (by first | assumption | kernel_rfl) rfl; refine T3.callm ?_ rfl rfl rfl (lit rfl); refine T3.nL (by kernel_rfl) rfl ?_; refine T3.mLi F.slot_list_append F.type_list_append (List.mem_cons_of_mem _ List.mem_cons_self) ?_; (with_reducible refine T3.cwB1 ?_; refine T3.ar1 ?_; refine T3.attr ?_ rfl); refine T3.nL (by kernel_rfl) rfl ?_; refine T3.gI (by assumption) (by with_reducible assumption) (by first | assumption | kernel_rfl) (by kernel_rfl) rfl (by first | rfl | assumption) ?_; (with_reducible refine T3.ar0 ?_)
        refine T3.lAppend (pre := [_]) (by rw [sizeLine_eq]; omega) ?_
        simp only [List.cons_append, List.nil_append, List.append_nil]
        (with_reducible refine Nx.nx ?_; refine T3.ss1 ?_); refine T3.sAsg ?_ rfl rfl rfl; (with_reducible refine T3.attr ?_ rfl); refine T3.nL (by kernel_rfl) rfl ?_; refine T3.gI (by assumption) (by with_reducible assumption) (by first | assumption | kernel_rfl) (by kernel_rfl) rfl (by first | rfl | assumption) ?_; (with_reducible refine T3.aName ?_); refine T3.st rfl ?_ (by kernel_rfl); (with_reducible refine Nx.nx ?_; refine T3.ss0 ?_)
        refine ⟨l', by show _ < l'.sz + r'.sz + 1; omega, i4x6 a _ _ (ys ++ [r']) ha rfl (by repeat (first | exact Has.nil | refine Has.cons rfl ?_)) (hns.app (.cons hb .nil)) ?_ ?_⟩
        · rw [← hsp, spl_mkp]; simp
        · have : l'.sz + r'.sz + 1 + xs.length ≤ 10000 := hsz
          have h0 : 0 < r'.sz := by cases r' <;> simp [Tr.sz]
          simp; omega
    · refine no hne ?_
      (with_reducible refine no rfl ?_; refine T3.ss0 ?_; refine Nx.nx ?_; refine T3.ss1 ?_); refine T3.sExpr ?_ (by first | assumption | kernel_rfl) rfl; refine T3.callm ?_ rfl rfl rfl (lit rfl); refine T3.nL (by kernel_rfl) rfl ?_; refine T3.mLi F.slot_list_append F.type_list_append (List.mem_cons_of_mem _ List.mem_cons_self) ?_; (with_reducible refine T3.cwB1 ?_; refine T3.ar1 ?_); refine T3.nL (by kernel_rfl) rfl ?_; (with_reducible refine T3.ar0 ?_)
      refine T3.lAppend (pre := [_]) (by rw [sizeLine_eq]; omega) ?_
      simp only [List.cons_append, List.nil_append, List.append_nil]
      (with_reducible refine Nx.nx ?_; refine T3.ss1 ?_); refine T3.sExpr ?_ (by first | assumption | kernel_rfl) rfl; refine T3.callm ?_ rfl rfl rfl (lit rfl); refine T3.nL (by kernel_rfl) rfl ?_; refine T3.mLi F.slot_list_reverse F.type_list_reverse (List.mem_cons_of_mem _ List.mem_cons_self) ?_; (with_reducible refine T3.cwB10 ?_)
      refine T3.lReverse (pre := [_]) (by rw [sizeLine_eq]; simp; omega) ?_
      simp only [List.cons_append, List.nil_append, List.append_nil]
      (with_reducible refine Nx.nx ?_; refine T3.ss1 ?_; refine T3.sRet ?_); refine T3.nL (by kernel_rfl) rfl ?_; (with_reducible refine Nx.ret ?_)
      refine Bk.mk (i2x3 pl _ rfl rfl ?_)
      rw [← hsp, hs1]
      have := (hns.app (.cons hn .nil)).rev
      simpa using this
  · rintro _ P1 _ l1 hqa; refine e2x3 hqa ?_; clear hqa; rintro a xs hra hrb hns; subst hra; subst hrb
    exact Gs.freezeLi (pre := []) fun P2 l2 hl => Gs.now ⟨⟨a, xs, rfl, hl, hns.le l2⟩, rfl⟩
end
theorem TreeV.pair {P : Vw} {a x y : Addr} {k : PK} {l r l' r' : Tr} {t : Tok} (h : TuP P a [.str (mkp k l' r').nm t, .ref x, .ref y]) (hl : TreeV P (.ref x) l) (hr : TreeV P (.ref y) r) : TreeV P (.ref a) (mkp k l r) := by
  cases k <;> exact ⟨a, t, x, y, rfl, h, hl, hr⟩
/-- a spine's parts put together -/
theorem spl_ne (k : PK) (t : Tr) : spl k t ≠ [] := by cases t <;> cases k <;> simp [spl]
theorem spl_fold (k : PK) : ∀ t : Tr, ∃ p ps, spl k t = p :: ps ∧ ps.foldl (mkp k) p = t
  | .cat l r => by
    cases k
    · refine e2x2 (spl_fold .cat l) ?_; rintro p ps h1 h2
      exact i2x2 p (ps ++ [r]) (by simp [spl, h1]) (by simp [h2, mkp])
    · exact i2x2 _ [] rfl rfl
  | .alt l r => by
    cases k
    · exact i2x2 _ [] rfl rfl
    · refine e2x2 (spl_fold .alt l) ?_; rintro p ps h1 h2
      exact i2x2 p (ps ++ [r]) (by simp [spl, h1]) (by simp [h2, mkp])
  | .chr _ => by cases k <;> exact ⟨_, [], rfl, rfl⟩
  | .emp => by cases k <;> exact ⟨_, [], rfl, rfl⟩
  | .loop _ _ => by cases k <;> exact ⟨_, [], rfl, rfl⟩
theorem spl_sub (k : PK) : ∀ (t p : Tr), p ∈ spl k t → p.ht ≤ t.ht ∧ p.sz ≤ t.sz
  | .cat l r, p, h => by
    cases k
    · simp only [spl, List.mem_append, List.mem_singleton] at h
      rcases h with h | rfl
      · have := spl_sub .cat l p h; exact ⟨Nat.le_trans this.1 (Nat.le_succ_of_le (Nat.le_max_left ..)), Nat.le_trans this.2 (Nat.le_succ_of_le (Nat.le_add_right ..))⟩
      · exact ⟨Nat.le_succ_of_le (Nat.le_max_right ..), Nat.le_succ_of_le (Nat.le_add_left ..)⟩
    · obtain rfl : p = _ := by simpa [spl] using h
      exact ⟨Nat.le_refl _, Nat.le_refl _⟩
  | .alt l r, p, h => by
    cases k
    · obtain rfl : p = _ := by simpa [spl] using h
      exact ⟨Nat.le_refl _, Nat.le_refl _⟩
    · simp only [spl, List.mem_append, List.mem_singleton] at h
      rcases h with h | rfl
      · have := spl_sub .alt l p h; exact ⟨Nat.le_trans this.1 (Nat.le_succ_of_le (Nat.le_max_left ..)), Nat.le_trans this.2 (Nat.le_succ_of_le (Nat.le_add_right ..))⟩
      · exact ⟨Nat.le_succ_of_le (Nat.le_max_right ..), Nat.le_succ_of_le (Nat.le_add_left ..)⟩
  | .chr _, p, h => by obtain rfl : p = _ := by cases k <;> simpa [spl] using h
                       exact ⟨Nat.le_refl _, Nat.le_refl _⟩
  | .emp, p, h => by obtain rfl : p = _ := by cases k <;> simpa [spl] using h
                     exact ⟨Nat.le_refl _, Nat.le_refl _⟩
  | .loop _ _, p, h => by obtain rfl : p = _ := by cases k <;> simpa [spl] using h
                          exact ⟨Nat.le_refl _, Nat.le_refl _⟩
theorem mkp_sub (k : PK) (l r p : Tr) (h : p ∈ spl k (mkp k l r)) : p.ht < (mkp k l r).ht ∧ p.sz < (mkp k l r).sz := by
  rw [spl_mkp, List.mem_append, List.mem_singleton] at h
  cases k
  all_goals
    rcases h with h | rfl
    · have := spl_sub _ l p h; exact ⟨Nat.lt_succ_of_le (Nat.le_trans this.1 (Nat.le_max_left ..)), Nat.lt_succ_of_le (Nat.le_trans this.2 (Nat.le_add_right ..))⟩
    · exact ⟨Nat.lt_succ_of_le (Nat.le_max_right ..), Nat.lt_succ_of_le (Nat.le_add_left ..)⟩
theorem Tr.sz_pos (t : Tr) : 0 < t.sz := by cases t <;> simp [Tr.sz]
theorem spl_len (k : PK) : ∀ t : Tr, (spl k t).length ≤ t.sz
  | .cat l r => by
    cases k
    · have := spl_len .cat l; simp only [spl, List.length_append, List.length_singleton, Tr.sz]; omega
    · simp only [spl, List.length_singleton, Tr.sz]; omega
  | .alt l r => by
    cases k
    · simp only [spl, List.length_singleton, Tr.sz]; omega
    · have := spl_len .alt l; simp only [spl, List.length_append, List.length_singleton, Tr.sz]; omega
  | .chr _ => by cases k <;> simp [spl, Tr.sz]
  | .emp => by cases k <;> simp [spl, Tr.sz]
  | .loop _ _ => by cases k <;> simp [spl, Tr.sz]
section
variable {c : Cx} {A : Around} {P : Vw} {σ : St} {E : Value → Vw → St → Prop} {env : Env} {Q : Value → Vw → St → Prop} {t : Tr} {x s : Addr} {b : Bool} {ch : Nat}
theorem key_ (kf : KF c) (hr : Room A 2) (hs : CsP P s ch) : T3 c A (PySem.call (.ref 439) [.ref s]) P [] (fun v P' σ' => (∃ sp, v = .ref sp ∧ SpP P' sp ch) ∧ σ' = []) NoE := by
  let Q1 : KO Value := fun v P' σ' => (∃ sp, v = .ref sp ∧ SpP P' sp ch) ∧ σ' = []
  show T3 _ _ _ _ _ Q1 _
  refine e1x2 (hs) ?_; rintro sp h1 h2
  refine T3.d0 kf.f_CharSet_key [("self", .ref s)] hr.dep (fun _ _ _ _ _ _ => by kernel_rfl) (by kernel_rfl) fun L cdv => ?_
  refine T3.ss1 ?_
  (with_reducible refine T3.sRet ?_; refine T3.attr ?_ rfl); refine T3.nL (by kernel_rfl) rfl ?_; refine T3.gI (by assumption) (by with_reducible assumption) (by first | assumption | kernel_rfl) (by kernel_rfl) rfl (by first | rfl | assumption) ?_; (with_reducible refine Nx.ret ?_)
  exact Bk.mk ⟨⟨sp, rfl, h2⟩, rfl⟩
theorem told_ (kf : KF c) : ∀ (n : Nat) (t : Tr), t.sz ≤ n → ∀ {A : Around} {P : Vw} {x : Addr}, Room A (t.ht + 6) → t.sz ≤ 10000 → Node P (.ref x) t → T3 c A (PySem.call (.ref t.toldF) [.ref x]) P [] (fun v P' σ' => TreeV P' v t ∧ σ' = []) NoE := by
  intro n
  induction n with
  | zero => intro t h; exact absurd h (by have := t.sz_pos; omega)
  | succ n ih =>
    have pairs : ∀ (k : PK) (l r : Tr), (mkp k l r).sz ≤ n + 1 → ∀ {A : Around} {P : Vw} {x : Addr}, Room A ((mkp k l r).ht + 6) → (mkp k l r).sz ≤ 10000 → Node P (.ref x) (mkp k l r) → T3 c A (PySem.call (.ref 573) [.ref x]) P [] (fun v P' σ' => TreeV P' v (mkp k l r) ∧ σ' = []) NoE := by
      intro k l r hn A P x hr hz h
      refine T3.d0 kf.f_Pair_told [("self", .ref x)] hr.dep (fun _ _ _ _ _ _ => by kernel_rfl) (by kernel_rfl) fun L cdv => ?_
      have hd : Room (A.deeper (mkE (fdS (clsS 39 2)) (Str.ofString "Pair.told") L 573 cdv)) ((mkp k l r).ht + 5) := hr.deeper
      refine T3.ss1 ?_
      refine T3.sAsg ?_ rfl rfl rfl; (with_reducible refine T3.calln ?_ rfl); refine T3.nG (by assumption) (by kernel_rfl) rfl ?_; refine T3.cw0 (by assumption) rfl ?_; (with_reducible refine T3.ar1 ?_); refine T3.nL (by kernel_rfl) rfl ?_; (with_reducible refine T3.ar0 ?_)
      refine T3.fr0 (spine_ kf (hd.le (lit rfl)) k h hz) ?_ (fun _ _ _ q => q.2)
      rintro _ P1 l1 hqa; obtain ⟨hqb, _⟩ := hqa; refine e2x3 hqb ?_; clear hqb; rintro ra xs hra hl hns; subst hra
      refine e2x2 (spl_fold k (mkp k l r)) ?_; rintro p ps hs1 hs2
      have hlen := hns.len
      have hlen2 := spl_len k (mkp k l r)
      rw [hs1] at hns hlen hlen2
      obtain ⟨v0, vs, rfl⟩ : ∃ v0 vs, xs = v0 :: vs := by cases xs with | nil => simp at hlen | cons a b => exact ⟨a, b, rfl⟩
      have hp : Node P1 v0 p := by cases hns; assumption
      have hps : Nodes P1 vs ps := by cases hns; assumption
      obtain ⟨y, rfl⟩ := hp.ref
      have subs : ∀ q, q ∈ p :: ps → q.ht < (mkp k l r).ht ∧ q.sz < (mkp k l r).sz := fun q hq => mkp_sub k l r q (by rw [hs1]; exact hq)
      (with_reducible refine T3.aName ?_); refine T3.st rfl ?_ (by kernel_rfl); (with_reducible refine Nx.nx ?_; refine T3.ss1 ?_); refine T3.sAsg ?_ rfl rfl rfl; refine T3.callm ?_ rfl rfl rfl (lit rfl); refine T3.subG ?_ (fun _ _ => rfl); refine T3.nL (by kernel_rfl) rfl ?_; refine T3.cint ?_; intro _; refine T3.gLi (by with_reducible assumption) ?_
      refine T3.lItem (k := 0) hl rfl rfl (by rw [sizeLine_eq]; simp at hlen hlen2 ⊢; omega) ?_
      refine T3.told kf hp ?_
      refine T3.cw10 kf p.inTab.2.2.2 ?_
      have sp := subs p (by simp)
      refine T3.fr0 (ih p (by omega) (hd.le (by omega)) (by omega) hp) ?_ (fun _ _ _ q => q.2)
      rintro _ P2 l2 ⟨hv, _⟩
      (with_reducible refine T3.aName ?_); refine T3.st rfl ?_ (by kernel_rfl); (with_reducible refine Nx.nx ?_; refine T3.ss1 ?_); refine T3.sFor ?_ (fun _ => rfl); refine T3.subSl ?_ (fun _ _ => ⟨_, rfl⟩); refine T3.nL (by kernel_rfl) rfl ?_; (with_reducible refine T3.part1 ?_); refine T3.cint ?_; intro _; (with_reducible refine T3.part0 ?_; refine T3.part0 ?_)
      intro sl P3 l3 hsl
      refine T3.gLi (by (with_reducible (apply LiP.le); (focus assumption); (apply LiP.le); (focus assumption); assumption)) ?_
      refine T3.lSlice (ys := vs) (lo := some 1) (hi := none) (st := none) (by (with_reducible (apply LiP.le); (focus assumption); (apply LiP.le); (focus assumption); assumption)) hsl (.int _ _) .none .none (by simp) (by rw [sizeLine_eq]; simp at hlen hlen2 ⊢; omega) (pick_from _ 1) ?_
      intro bl _
      refine T3.freezeLi (pre := [_]) fun P4 l4 hb => ?_
      simp only [List.cons_append, List.nil_append, List.append_nil]
      obtain ⟨v0, rfl⟩ := hv.ref
      have h4 : Node P4 (.ref x) (mkp k l r) := by (with_reducible (apply Node.le); (focus assumption); (apply Node.le); (focus assumption); (apply Node.le); (focus assumption); (apply Node.le); (focus assumption); assumption)
      have hps4 : Nodes P4 vs ps := ((hps.le l2).le l3).le l4
      let I1 : Nat → Vw → St → Prop := fun i P' σ' => ∃ m v, σ' = [(L, NsP m)] ∧ Has m [(Str.ofString "text", .ref v), (Str.ofString "self", .ref x)] ∧ TreeV P' (.ref v) ((ps.take i).foldl (mkp k) p)
      refine T3.itLi hb hd.no I1 ⟨_, v0, rfl, by repeat (first | exact Has.nil | refine Has.cons rfl ?_), (hv.le l3).le l4⟩ ⟨?_, ?_⟩
      · rintro i v P5 _ l5 hi hvi hqa; refine e2x3 hqa ?_; clear hqa; rintro m tv hra hm ht; subst hra
        refine e1x2 (hps4.at hvi) ?_; rintro q hq hqn
        obtain ⟨z, rfl⟩ := hqn.ref
        refine T3.forget hm ?_
        (with_reducible refine T3.aName ?_); refine T3.st rfl ?_ (by kernel_rfl); (with_reducible refine T3.ss1 ?_); refine T3.sAsg ?_ rfl rfl rfl; (with_reducible refine T3.tup ?_ rfl; refine T3.ar1 ?_; refine T3.attr ?_ rfl); refine T3.nL (by kernel_rfl) rfl ?_
        refine T3.name kf (h4.le l5) ?_
        (with_reducible refine T3.ar1 ?_); refine T3.nL (by kernel_rfl) rfl ?_; (with_reducible refine T3.ar1 ?_); refine T3.callm ?_ rfl rfl rfl (lit rfl); refine T3.nL (by kernel_rfl) rfl ?_
        refine T3.told kf (hqn.le l5) ?_
        refine T3.cw10 kf q.inTab.2.2.2 ?_
        have sq := subs q (List.mem_cons_of_mem _ (List.mem_of_getElem? hq))
        refine T3.fr0 (ih q (by omega) (hd.le (by omega)) (by omega) (hqn.le l5)) ?_ (fun _ _ _ q => q.2)
        rintro _ P6 l6 ⟨hv6, _⟩
        obtain ⟨v6, rfl⟩ := hv6.ref
        (with_reducible refine T3.ar0 ?_); refine T3.newTu (lit rfl) ?_; intro _ _ _ _; (with_reducible refine T3.aName ?_); refine T3.st rfl ?_ (by kernel_rfl); (with_reducible refine Nx.nx ?_; refine T3.ss0 ?_)
        refine i2x3 _ _ rfl (by repeat (first | exact Has.nil | refine Has.cons rfl ?_)) ?_
        rw [List.take_add_one, hq, List.foldl_append]
        show TreeV _ _ (mkp k ((ps.take i).foldl (mkp k) p) q)
        exact TreeV.pair (by assumption) ((ht.le l6).le (by assumption)) (hv6.le (by assumption))
      · rintro P5 _ l5 hqa; refine e2x3 hqa ?_; clear hqa; rintro m tv hra hm ht; subst hra
        refine T3.forget hm ?_
        (with_reducible refine T3.ss0 ?_; refine Nx.nx ?_; refine T3.ss1 ?_; refine T3.sRet ?_); refine T3.nL (by kernel_rfl) rfl ?_; (with_reducible refine Nx.ret ?_)
        rw [hps4.len, List.take_length, hs2] at ht
        exact Bk.mk ⟨ht, rfl⟩
    intro t hn A P x hr hz h
    cases t with
    | chr ch =>
      refine e2x3 (h) ?_; rintro _ s e hi hs
      cases e
      refine T3.d0 kf.f_Chars_told [("self", .ref x)] hr.dep (fun _ _ _ _ _ _ => by kernel_rfl) (by kernel_rfl) fun L cdv => ?_
      have hs' := hs
      refine e1x2 (hs') ?_; rintro sp hs1 hs2
      refine T3.ss1 ?_
      (with_reducible refine T3.sRet ?_; refine T3.tup ?_ rfl; refine T3.ar1 ?_; refine T3.attr ?_ rfl); refine T3.nL (by kernel_rfl) rfl ?_; refine T3.gC (by assumption) (by with_reducible assumption) (by first | assumption | kernel_rfl) rfl rfl rfl (by kernel_rfl) ?_; (with_reducible refine T3.ar1 ?_); refine T3.callm ?_ rfl rfl rfl (lit rfl); (with_reducible refine T3.attr ?_ rfl); refine T3.nL (by kernel_rfl) rfl ?_; refine T3.gI (by assumption) (by with_reducible assumption) (by first | assumption | kernel_rfl) (by kernel_rfl) rfl (by first | rfl | assumption) ?_; refine T3.mFI (by assumption) (by with_reducible assumption) (by first | assumption | kernel_rfl) rfl (by kernel_rfl) rfl ?_; refine T3.cw10 (by assumption) rfl ?_
      refine T3.fr0 (key_ kf (by exact Room.le (Room.deeper (by assumption)) (lit rfl)) hs) ?_ (fun _ _ _ q => q.2)
      rintro _ P1 l1 hqa; obtain ⟨hqb, _⟩ := hqa; refine e1x2 hqb ?_; clear hqb; rintro sp' hra hsp; subst hra
      (with_reducible refine T3.ar0 ?_); refine T3.newTu (lit rfl) ?_; intro _ _ _ _; (with_reducible refine Nx.ret ?_)
      exact Bk.mk ⟨⟨_, sp', _, rfl, by assumption, by (with_reducible (apply SpP.le); (focus assumption); assumption)⟩, rfl⟩
    | emp =>
      refine e1x2 (h) ?_; rintro _ e hi
      cases e
      refine T3.d0 kf.f_Node_told [("self", .ref x)] hr.dep (fun _ _ _ _ _ _ => by kernel_rfl) (by kernel_rfl) fun L cdv => ?_
      refine T3.ss1 ?_
      (with_reducible refine T3.sRet ?_; refine T3.tup ?_ rfl; refine T3.ar1 ?_; refine T3.attr ?_ rfl); refine T3.nL (by kernel_rfl) rfl ?_; refine T3.gC (by assumption) (by with_reducible assumption) (by first | assumption | kernel_rfl) rfl rfl rfl (by kernel_rfl) ?_; (with_reducible refine T3.ar0 ?_); refine T3.newTu (lit rfl) ?_; intro _ _ _ _; (with_reducible refine Nx.ret ?_)
      exact Bk.mk ⟨⟨_, _, rfl, by assumption⟩, rfl⟩
    | cat l r => exact pairs .cat l r hn hr hz h
    | alt l r => exact pairs .alt l r hn hr hz h
    | loop k b =>
      refine e2x3 (h) ?_; rintro _ a e hi hb
      cases e
      refine T3.d0 kf.f_Loop_told [("self", .ref x)] hr.dep (fun _ _ _ _ _ _ => by kernel_rfl) (by kernel_rfl) fun L cdv => ?_
      refine T3.ss1 ?_
      have hz' : b.sz + 1 ≤ n + 1 := hn
      have hz2 : b.sz + 1 ≤ 10000 := hz
      have hr' : Room A (b.ht + 1 + 6) := hr
      cases k
      · (with_reducible refine T3.sRet ?_; refine T3.tup ?_ rfl; refine T3.ar1 ?_; refine T3.attr ?_ rfl); refine T3.nL (by kernel_rfl) rfl ?_; refine T3.gC (by assumption) (by with_reducible assumption) (by first | assumption | kernel_rfl) rfl rfl rfl (by kernel_rfl) ?_; (with_reducible refine T3.ar1 ?_); refine T3.callm ?_ rfl rfl rfl (lit rfl); (with_reducible refine T3.attr ?_ rfl); refine T3.nL (by kernel_rfl) rfl ?_; refine T3.gI (by assumption) (by with_reducible assumption) (by first | assumption | kernel_rfl) (by kernel_rfl) rfl (by first | rfl | assumption) ?_
        refine T3.told kf hb ?_
        refine T3.cw10 kf b.inTab.2.2.2 ?_
        refine T3.fr0 (ih b (by omega) (hr'.deeper.le (Nat.lt_succ_self _)) (by omega) hb) ?_ (fun _ _ _ q => q.2)
        rintro _ P1 l1 ⟨hv, _⟩
        obtain ⟨vx, rfl⟩ := hv.ref
        (with_reducible refine T3.ar0 ?_); refine T3.newTu (lit rfl) ?_; intro _ _ _ _; (with_reducible refine Nx.ret ?_)
        refine Bk.mk ⟨⟨_, _, vx, rfl, by assumption, hv.le (by assumption)⟩, rfl⟩
      · (with_reducible refine T3.sRet ?_; refine T3.tup ?_ rfl; refine T3.ar1 ?_; refine T3.attr ?_ rfl); refine T3.nL (by kernel_rfl) rfl ?_; refine T3.gC (by assumption) (by with_reducible assumption) (by first | assumption | kernel_rfl) rfl rfl rfl (by kernel_rfl) ?_; (with_reducible refine T3.ar1 ?_); refine T3.callm ?_ rfl rfl rfl (lit rfl); (with_reducible refine T3.attr ?_ rfl); refine T3.nL (by kernel_rfl) rfl ?_; refine T3.gI (by assumption) (by with_reducible assumption) (by first | assumption | kernel_rfl) (by kernel_rfl) rfl (by first | rfl | assumption) ?_
        refine T3.told kf hb ?_
        refine T3.cw10 kf b.inTab.2.2.2 ?_
        refine T3.fr0 (ih b (by omega) (hr'.deeper.le (Nat.lt_succ_self _)) (by omega) hb) ?_ (fun _ _ _ q => q.2)
        rintro _ P1 l1 ⟨hv, _⟩
        obtain ⟨vx, rfl⟩ := hv.ref
        (with_reducible refine T3.ar0 ?_); refine T3.newTu (lit rfl) ?_; intro _ _ _ _; (with_reducible refine Nx.ret ?_)
        refine Bk.mk ⟨⟨_, _, vx, rfl, by assumption, hv.le (by assumption)⟩, rfl⟩
      · (with_reducible refine T3.sRet ?_; refine T3.tup ?_ rfl; refine T3.ar1 ?_; refine T3.attr ?_ rfl); refine T3.nL (by kernel_rfl) rfl ?_; refine T3.gC (by assumption) (by with_reducible assumption) (by first | assumption | kernel_rfl) rfl rfl rfl (by kernel_rfl) ?_; (with_reducible refine T3.ar1 ?_); refine T3.callm ?_ rfl rfl rfl (lit rfl); (with_reducible refine T3.attr ?_ rfl); refine T3.nL (by kernel_rfl) rfl ?_; refine T3.gI (by assumption) (by with_reducible assumption) (by first | assumption | kernel_rfl) (by kernel_rfl) rfl (by first | rfl | assumption) ?_
        refine T3.told kf hb ?_
        refine T3.cw10 kf b.inTab.2.2.2 ?_
        refine T3.fr0 (ih b (by omega) (hr'.deeper.le (Nat.lt_succ_self _)) (by omega) hb) ?_ (fun _ _ _ q => q.2)
        rintro _ P1 l1 ⟨hv, _⟩
        obtain ⟨vx, rfl⟩ := hv.ref
        (with_reducible refine T3.ar0 ?_); refine T3.newTu (lit rfl) ?_; intro _ _ _ _; (with_reducible refine Nx.ret ?_)
        refine Bk.mk ⟨⟨_, _, vx, rfl, by assumption, hv.le (by assumption)⟩, rfl⟩
end
/-! the reader's small parts -/
noncomputable def catAll : List Tr → Tr
  | [] => .emp
  | t :: ts => ts.foldl .cat t
section
variable {c : Cx} {A : Around} {P : Vw} {σ : St} {E : Value → Vw → St → Prop} {env : Env} {Q : Value → Vw → St → Prop} {t : Tr} {x cd s : Addr} {b : Bool} {T : List Nat} {p : Nat} {t1 t2 : Tok}
theorem cat_all_ (kf : KF c) (hr : Room A 8) {a : Addr} {xs : List Value} {ts : List Tr} (hl : LiP P a xs) (hns : Nodes P xs ts) (hz : xs.length ≤ 100000) :
    T3 c A (PySem.call (.ref 717) [.ref a]) P [] (fun v P' σ' => Node P' v (catAll ts) ∧ σ' = []) NoE := by
  let Q1 : KO Value := fun v P' σ' => Node P' v (catAll ts) ∧ σ' = []
  show T3 _ _ _ _ _ Q1 _
  refine T3.d0 kf.f_cat_all [("nodes", .ref a)] hr.dep (fun _ _ _ _ _ _ => by kernel_rfl) (by kernel_rfl) fun L cdv => ?_
  have hd : Room (A.deeper (mkE (fdS (topS 49)) (Str.ofString "cat_all") L 717 cdv)) 7 := hr.deeper
  refine T3.ss1 ?_
  (with_reducible refine T3.sIf ?_; refine T3.isCmp ?_ rfl; refine T3.calln ?_ rfl); refine T3.nB (by assumption) (by kernel_rfl) (by boot_by_name) ?_; (with_reducible refine T3.cwB ?_; refine T3.ar1 ?_); refine T3.nL (by kernel_rfl) rfl ?_; (with_reducible refine T3.ar0 ?_)
  refine T3.lLenP hl (by rw [sizeLine_eq]; omega) fun _ => ?_
  refine T3.cint ?_; intro _; (with_reducible refine T3.iEq ?_; refine T3.truB ?_)
  cases hns with
  | nil =>
    refine yes rfl ?_
    (with_reducible refine T3.ss1 ?_; refine T3.sRet ?_; refine T3.calln ?_ rfl); refine T3.nG (by assumption) (by kernel_rfl) rfl ?_; refine T3.cwC0 (by assumption) rfl ?_
    refine T3.fr0 (emp_new kf (by exact Room.le (by assumption) (lit rfl))) ?_ (fun _ _ _ q => q.2)
    rintro _ P1 l1 ⟨hn, _⟩
    (with_reducible refine Nx.ret ?_; refine Nx.ret ?_)
    exact Bk.mk ⟨hn, rfl⟩
  | @cons v0 p0 vs ts hp hps =>
    refine no (by simp; omega) ?_
    (with_reducible refine T3.ss0 ?_; refine Nx.nx ?_; refine T3.ss1 ?_); refine T3.sAsg ?_ rfl rfl rfl; refine T3.subG ?_ (fun _ _ => rfl); refine T3.nL (by kernel_rfl) rfl ?_; refine T3.cint ?_; intro _; refine T3.gLi (by with_reducible assumption) ?_
    refine T3.lItem (k := 0) hl rfl rfl (by rw [sizeLine_eq]; omega) ?_
    (with_reducible refine T3.aName ?_); refine T3.st rfl ?_ (by kernel_rfl); (with_reducible refine Nx.nx ?_; refine T3.ss1 ?_); refine T3.sFor ?_ (fun _ => rfl); refine T3.subSl ?_ (fun _ _ => ⟨_, rfl⟩); refine T3.nL (by kernel_rfl) rfl ?_; (with_reducible refine T3.part1 ?_); refine T3.cint ?_; intro _; (with_reducible refine T3.part0 ?_; refine T3.part0 ?_)
    intro sl P3 l3 hsl
    refine T3.gLi (by (with_reducible (apply LiP.le); (focus assumption); assumption)) ?_
    refine T3.lSlice (ys := vs) (lo := some 1) (hi := none) (st := none) (by (with_reducible (apply LiP.le); (focus assumption); assumption)) hsl (.int _ _) .none .none (by simp) (by rw [sizeLine_eq]; omega) (pick_from _ 1) ?_
    intro bl _
    refine T3.freezeLi (pre := [_]) fun P4 l4 hb => ?_
    simp only [List.cons_append, List.nil_append, List.append_nil]
    obtain ⟨n0, rfl⟩ := hp.ref
    have hps4 : Nodes P4 vs ts := (hps.le l3).le l4
    let I1 : Nat → Vw → St → Prop := fun i P' σ' => ∃ m v, σ' = [(L, NsP m)] ∧ Has m [(Str.ofString "node", .ref v)] ∧ Node P' (.ref v) ((ts.take i).foldl .cat p0)
    refine T3.itLi hb hd.no I1 ⟨_, n0, rfl, by repeat (first | exact Has.nil | refine Has.cons rfl ?_), (hp.le l3).le l4⟩ ⟨?_, ?_⟩
    · rintro i v P5 _ l5 hi hvi hqa; refine e2x3 hqa ?_; clear hqa; rintro m tv hra hm ht; subst hra
      refine e1x2 (hps4.at hvi) ?_; rintro q hq hqn
      obtain ⟨z, rfl⟩ := hqn.ref
      refine T3.forget hm ?_
      (with_reducible refine T3.aName ?_); refine T3.st rfl ?_ (by kernel_rfl); (with_reducible refine T3.ss1 ?_); refine T3.sAsg ?_ rfl rfl rfl; (with_reducible refine T3.calln ?_ rfl); refine T3.nG (by assumption) (by kernel_rfl) rfl ?_; refine T3.cwC (by assumption) rfl ?_; (with_reducible refine T3.ar1 ?_); refine T3.nL (by kernel_rfl) rfl ?_; (with_reducible refine T3.ar1 ?_); refine T3.nL (by kernel_rfl) rfl ?_; (with_reducible refine T3.ar0 ?_)
      refine T3.fr0 (cat_new kf (by exact Room.le (by assumption) (lit rfl)) ht (hqn.le l5)) ?_ (fun _ _ _ q => q.2)
      rintro _ P6 l6 ⟨hv6, _⟩
      obtain ⟨v6, rfl⟩ := hv6.ref
      (with_reducible refine T3.aName ?_); refine T3.st rfl ?_ (by kernel_rfl); (with_reducible refine Nx.nx ?_; refine T3.ss0 ?_)
      refine i2x3 _ _ rfl (by repeat (first | exact Has.nil | refine Has.cons rfl ?_)) ?_
      rw [List.take_add_one, hq, List.foldl_append]
      exact hv6
    · rintro P5 _ l5 hqa; refine e2x3 hqa ?_; clear hqa; rintro m tv hra hm ht; subst hra
      refine T3.forget hm ?_
      (with_reducible refine T3.ss0 ?_; refine Nx.nx ?_; refine T3.ss1 ?_; refine T3.sRet ?_); refine T3.nL (by kernel_rfl) rfl ?_; (with_reducible refine Nx.ret ?_)
      rw [hps4.len, List.take_length] at ht
      exact Bk.mk ⟨ht, rfl⟩
/-- "ab" -/
theorem cquoted_ (kf : KF c) (hr : Room A 7) (hz : Fits T) (hx : P x = some (instObj 222 cd)) {ca cb : Nat} (h0 : T[p]? = some ca) (h1 : T[p + 1]? = some cb) (h2 : T[p + 2]? = some 34) (ha : ca ≠ 34 ∧ ca ≠ 92) (hb : cb ≠ 34 ∧ cb ≠ 92) {tq : Tok} :
    T3 c A (PySem.call (.ref 219) [.ref x, .str (S [34]) tq]) P [(cd, IsF (cF T t1 p t2))] (fun v P' σ' => (∃ t, σ' = [(cd, IsF (cF T t1 (p + 3) t))]) ∧ ∃ t, v = .str (S [ca, cb]) t) NoE := by
  let Q1 : KO Value := fun v P' σ' => (∃ t, σ' = [(cd, IsF (cF T t1 (p + 3) t))]) ∧ ∃ t, v = .str (S [ca, cb]) t
  show T3 _ _ _ _ _ Q1 _
  refine T3.d0 kf.f_Cursor_quoted [("end", .str (S [34]) tq), ("self", .ref x)] hr.dep (fun _ _ _ _ _ _ => by kernel_rfl) (by kernel_rfl) fun L cdv => ?_
  have hd : Room (A.deeper (mkE (fdS (clsS 14 15)) (Str.ofString "Cursor.quoted") L 219 cdv)) 6 := hr.deeper
  have hlt := (List.getElem?_eq_some_iff.mp h2).1
  refine T3.ss1 ?_
  refine T3.sAsg ?_ rfl rfl rfl; (with_reducible refine T3.lst ?_ rfl; refine T3.ar0 ?_); refine T3.newLi (lit rfl) ?_; intro _ _; (with_reducible refine T3.aName ?_); refine T3.st rfl ?_ (by kernel_rfl); (with_reducible refine Nx.nx ?_; refine T3.ss1 ?_; refine T3.sWhile ?_)
  rename_i sl _
  let I2 : Nat → Vw → St → Prop := fun i P' σ' => ∃ t m ps, σ' = [(L, NsP m), (sl, IsLi (strValues ps)), (cd, IsF (cF T t1 (p + i : Nat) t))] ∧ Has m [(Str.ofString "signs", .ref sl), (Str.ofString "end", .str (S [34]) tq), (Str.ofString "self", .ref x)] ∧ ps.map (·.1) = [S [ca], S [cb]].take i
  refine C3.whileN I2 2 ⟨_, _, [], rfl, by repeat (first | exact Has.nil | refine Has.cons rfl ?_), rfl⟩ ?_ ?_
  · rintro i P1 _ l1 hi hqa; refine e3x3 hqa ?_; clear hqa; rintro t m ps hra hm hps; subst hra
    obtain ⟨ch, h3, h4, h5⟩ : ∃ ch, T[p + i]? = some ch ∧ (ch ≠ 34 ∧ ch ≠ 92) ∧ [S [ca], S [cb]][i]? = some (S [ch]) := by
      rcases i with _ | _ | i
      · exact i1x3 ca h0 ha rfl
      · exact i1x3 cb h1 hb rfl
      · omega
    refine T3.forget hm ?_
    (with_reducible refine T3.isNot ?_); refine T3.isT rfl ?_; refine T3.callm ?_ rfl rfl rfl (lit rfl); refine T3.nL (by kernel_rfl) rfl ?_; refine T3.mFM (by assumption) (by (with_reducible (apply Le.ap); (focus assumption); assumption)) (List.mem_cons_of_mem _ (List.mem_cons_of_mem _ List.mem_cons_self)) (by first | assumption | kernel_rfl) rfl (by kernel_rfl) rfl ?_; refine T3.cw10 (by assumption) rfl ?_
    refine T3.frAt (pre := [_, _]) (is_done_ kf (by exact Room.le (by assumption) (lit rfl)) hz (by (with_reducible (apply Le.ap); (focus assumption); assumption))) ?_
    rintro _ P2 _ l2 ⟨rfl, rfl⟩
    simp only [List.cons_append, List.nil_append, List.append_nil]
    (with_reducible refine T3.truB ?_)
    refine yes (by simp; omega) ?_
    (with_reducible refine T3.ss1 ?_); refine T3.sAsg ?_ rfl rfl rfl; refine T3.callm ?_ rfl rfl rfl (lit rfl); refine T3.nL (by kernel_rfl) rfl ?_; refine T3.mFM (by assumption) (by (with_reducible (apply Le.ap); (focus assumption); (apply Le.ap); (focus assumption); assumption)) (List.mem_cons_of_mem _ (List.mem_cons_of_mem _ List.mem_cons_self)) (by first | assumption | kernel_rfl) rfl (by kernel_rfl) rfl ?_; refine T3.cw10 (by assumption) rfl ?_
    refine T3.frAt (pre := [_, _]) (take_ kf (by exact Room.le (by assumption) (lit rfl)) hz (by (with_reducible (apply Le.ap); (focus assumption); (apply Le.ap); (focus assumption); assumption)) h3) ?_
    rintro _ P3 _ l3 hqa; obtain ⟨⟨t', rfl⟩, t'', rfl⟩ := hqa
    simp only [List.cons_append, List.nil_append, List.append_nil]
    (with_reducible refine T3.aName ?_); refine T3.st rfl ?_ (by kernel_rfl); (with_reducible refine Nx.nx ?_; refine T3.ss1 ?_; refine T3.sIf ?_; refine T3.isCmp ?_ rfl); refine T3.nL (by kernel_rfl) rfl ?_; refine T3.nL (by kernel_rfl) rfl ?_; (with_reducible refine T3.sEq ?_; refine T3.truB ?_)
    refine no (by rw [S_beq]; simp [h4.1]) ?_
    (with_reducible refine T3.ss0 ?_; refine Nx.nx ?_; refine T3.ss1 ?_; refine T3.sIf ?_; refine T3.isCmp ?_ rfl); refine T3.nL (by kernel_rfl) rfl ?_; refine T3.cstr ?_; intro _; (with_reducible refine T3.sEq ?_; refine T3.truB ?_)
    refine no (by show (S [ch] == S [92]) = false; rw [S_beq]; simp [h4.2]) ?_
    (with_reducible refine T3.ss0 ?_; refine Nx.nx ?_; refine T3.ss1 ?_); refine T3.sExpr ?_ (by first | assumption | kernel_rfl) rfl; refine T3.callm ?_ rfl rfl rfl (lit rfl); refine T3.nL (by kernel_rfl) rfl ?_; refine T3.mLi F.slot_list_append F.type_list_append (List.mem_cons_of_mem _ List.mem_cons_self) ?_; (with_reducible refine T3.cwB1 ?_; refine T3.ar1 ?_); refine T3.nL (by kernel_rfl) rfl ?_; (with_reducible refine T3.ar0 ?_)
    refine T3.lAppend (pre := [_]) (by rw [sizeLine_eq]; have := congrArg List.length hps; simp [strValues] at this ⊢; omega) ?_
    simp only [List.cons_append, List.nil_append, List.append_nil]
    (with_reducible refine Nx.nx ?_; refine T3.ss0 ?_)
    rw [show strValues ps ++ [Value.str (S [ch]) t''] = strValues (ps ++ [(S [ch], t'')]) by simp [strValues]]
    exact i3x3 t' _ (ps ++ [(S [ch], t'')]) rfl (by repeat (first | exact Has.nil | refine Has.cons rfl ?_)) (by rw [List.map_append, hps, List.take_add_one, h5]; rfl)
  · rintro P1 _ l1 hqa; refine e3x3 hqa ?_; clear hqa; rintro t m ps hra hm hps; subst hra
    refine T3.forget hm ?_
    (with_reducible refine T3.isNot ?_); refine T3.isT rfl ?_; refine T3.callm ?_ rfl rfl rfl (lit rfl); refine T3.nL (by kernel_rfl) rfl ?_; refine T3.mFM (by assumption) (by (with_reducible (apply Le.ap); (focus assumption); assumption)) (List.mem_cons_of_mem _ (List.mem_cons_of_mem _ List.mem_cons_self)) (by first | assumption | kernel_rfl) rfl (by kernel_rfl) rfl ?_; refine T3.cw10 (by assumption) rfl ?_
    refine T3.frAt (pre := [_, _]) (is_done_ kf (by exact Room.le (by assumption) (lit rfl)) hz (by (with_reducible (apply Le.ap); (focus assumption); assumption))) ?_
    rintro _ P2 _ l2 ⟨rfl, rfl⟩
    simp only [List.cons_append, List.nil_append, List.append_nil]
    (with_reducible refine T3.truB ?_)
    refine yes (by simp; omega) ?_
    (with_reducible refine T3.ss1 ?_); refine T3.sAsg ?_ rfl rfl rfl; refine T3.callm ?_ rfl rfl rfl (lit rfl); refine T3.nL (by kernel_rfl) rfl ?_; refine T3.mFM (by assumption) (by (with_reducible (apply Le.ap); (focus assumption); (apply Le.ap); (focus assumption); assumption)) (List.mem_cons_of_mem _ (List.mem_cons_of_mem _ List.mem_cons_self)) (by first | assumption | kernel_rfl) rfl (by kernel_rfl) rfl ?_; refine T3.cw10 (by assumption) rfl ?_
    refine T3.frAt (pre := [_, _]) (take_ kf (by exact Room.le (by assumption) (lit rfl)) hz (by (with_reducible (apply Le.ap); (focus assumption); (apply Le.ap); (focus assumption); assumption)) h2) ?_
    rintro _ P3 _ l3 hqa; obtain ⟨⟨t', rfl⟩, t'', rfl⟩ := hqa
    simp only [List.cons_append, List.nil_append, List.append_nil]
    (with_reducible refine T3.aName ?_); refine T3.st rfl ?_ (by kernel_rfl); (with_reducible refine Nx.nx ?_; refine T3.ss1 ?_; refine T3.sIf ?_; refine T3.isCmp ?_ rfl); refine T3.nL (by kernel_rfl) rfl ?_; refine T3.nL (by kernel_rfl) rfl ?_; (with_reducible refine T3.sEq ?_; refine T3.truB ?_; refine yes rfl ?_; refine T3.ss1 ?_; refine T3.sRet ?_); refine T3.callm ?_ rfl rfl rfl (lit rfl); refine T3.cstr ?_; intro _; refine T3.mStr F.slot_str_join F.type_str_join ?_; (with_reducible refine T3.cwB1 ?_; refine T3.ar1 ?_); refine T3.nL (by kernel_rfl) rfl ?_; (with_reducible refine T3.ar0 ?_)
    refine T3.freezeLi (pre := [_]) fun P4 l4 hb => ?_
    simp only [List.cons_append, List.nil_append, List.append_nil]
    refine T3.sJoin hb (by rw [hps]; rfl) fun _ => ?_
    (with_reducible refine Nx.ret ?_; refine Nx.ret ?_; refine Nx.ret ?_)
    exact Bk.mk ⟨⟨_, rfl⟩, _, by rw [hps]; rfl⟩
end
/-! the reader -/
noncomputable abbrev rF (x : Addr) (dv : Value) (pat : Bool) (d : Nat) (td : Tok) : Fs := [(Str.ofString "cursor", .ref x), (Str.ofString "definitions", dv), (Str.ofString "is_pattern", .bool pat), (Str.ofString "depth", .int d td)]
noncomputable def stopAt (pat : Bool) (T : List Nat) (p : Nat) : Prop := sg T p = [] ∨ sg T p = [124] ∨ sg T p = [41] ∨ (pat = true ∧ sg T p = [32])
noncomputable def LK.sign : LK → Nat | .star => 42 | .plus => 43 | .opt => 63
noncomputable def loops (ks : List LK) (t : Tr) : Tr := ks.foldl (fun b k => .loop k b) t
noncomputable def DefOk (c : Cx) (P : Vw) (dv : Value) (D : List (List Nat × Tr)) (δ : St) : Prop :=
  (dv = .none ∧ D = [] ∧ δ = []) ∨ ∃ kd fs, dv = .ref kd ∧ kd ≠ sysModules ∧ δ = [(kd, IsD c fs)] ∧ ∀ w t, D.lookup w = some t → ∃ v, valueAt fs (S w) = some v ∧ Node P v t
theorem DefOk.le {c : Cx} {P P' : Vw} {dv : Value} {D : List (List Nat × Tr)} {δ : St} (q : Le P P') (h : DefOk c P dv D δ) : DefOk c P' dv D δ := by
  rcases h with h | ⟨kd, fs, h1, h2, h3, h4⟩
  · exact .inl h
  · exact .inr ⟨kd, fs, h1, h2, h3, fun w t e => let ⟨v, a, b⟩ := h4 w t e; ⟨v, a, b.le q⟩⟩
theorem DefOk.hand {c : Cx} {P : Vw} {dv : Value} {D : List (List Nat × Tr)} {δ : St} (h : DefOk c P dv D δ) : handedIn dv = true := by
  rcases h with ⟨rfl, _⟩ | ⟨kd, fs, rfl, _⟩ <;> rfl
theorem atW_one (T : List Nat) (q w : Nat) : atW T q [w] = (sg T q == [w]) := by
  unfold atW sg
  show (List.take 1 (T.drop q) == [w]) = _
  cases h : T[q]? with
  | none => rw [List.drop_of_length_le (by simpa using h)]; rfl
  | some v =>
    obtain ⟨h1, h2⟩ := List.getElem?_eq_some_iff.mp h
    rw [List.drop_eq_getElem_cons h1, h2]; rfl
section
variable {c : Cx} {A : Around} {P : Vw} {σ δ : St} {E : Value → Vw → St → Prop} {env : Env} {Q : Value → Vw → St → Prop} {t : Tr} {x cd R rd : Addr} {b pat : Bool} {T : List Nat} {p d : Nat} {t1 t2 td : Tok} {dv : Value} {D : List (List Nat × Tr)}
theorem is_stop_t (kf : KF c) (hr : Room A 5) (hz : Fits T) (hx : P x = some (instObj 222 cd)) (hR : P R = some (instObj 907 rd)) (hs : stopAt pat T p) :
    T3 c A (PySem.call (.ref 815) [.ref R]) P [(rd, IsF (rF x dv pat d td)), (cd, IsF (cF T t1 p t2))] (fun v P' σ' => σ' = [(rd, IsF (rF x dv pat d td)), (cd, IsF (cF T t1 p t2))] ∧ v = .bool true) NoE := by
  let Q1 : KO Value := fun v P' σ' => σ' = [(rd, IsF (rF x dv pat d td)), (cd, IsF (cF T t1 p t2))] ∧ v = .bool true
  show T3 _ _ _ _ _ Q1 _
  refine T3.d0 kf.f_RegexReader_is_stop [("self", .ref R)] hr.dep (fun _ _ _ _ _ _ => by kernel_rfl) (by kernel_rfl) fun L cdv => ?_
  refine T3.ss1 ?_
  refine T3.sAsg ?_ rfl rfl rfl; refine T3.callm ?_ rfl rfl rfl (lit rfl); (with_reducible refine T3.attr ?_ rfl); refine T3.nL (by kernel_rfl) rfl ?_; refine T3.gM (by assumption) (by with_reducible assumption) (List.mem_cons_of_mem _ List.mem_cons_self) (by first | assumption | kernel_rfl) (by kernel_rfl) rfl (by first | rfl | assumption) ?_; refine T3.mFM (by assumption) (by with_reducible assumption) (List.mem_cons_of_mem _ (List.mem_cons_of_mem _ List.mem_cons_self)) (by first | assumption | kernel_rfl) rfl (by kernel_rfl) rfl ?_; refine T3.cw10 (by assumption) rfl ?_
  refine T3.frAt (pre := [_, _]) (peek0_ kf (by exact Room.le (Room.deeper (by assumption)) (lit rfl)) hz (by with_reducible assumption)) ?_
  rintro _ P1 _ l1 hqa; obtain ⟨rfl, _, rfl⟩ := hqa
  simp only [List.cons_append, List.nil_append, List.append_nil]
  rcases hs with h | h | h | ⟨rfl, h⟩
  · rw [h]
    (with_reducible refine T3.aName ?_); refine T3.st rfl ?_ (by kernel_rfl); (with_reducible refine Nx.nx ?_; refine T3.ss1 ?_; refine T3.sIf ?_; refine T3.isBool ?_; refine T3.or1 ?_; refine T3.isCmp ?_ rfl); refine T3.nL (by kernel_rfl) rfl ?_; refine T3.cstr ?_; intro _; (with_reducible refine T3.sEq ?_; refine T3.truB ?_; refine yes rfl ?_; refine yes rfl ?_; refine T3.ss1 ?_; refine T3.sRet ?_; refine T3.cbool ?_; refine Nx.ret ?_; refine Nx.ret ?_)
    exact Bk.mk ⟨rfl, rfl⟩
  · rw [h]
    (with_reducible refine T3.aName ?_); refine T3.st rfl ?_ (by kernel_rfl); (with_reducible refine Nx.nx ?_; refine T3.ss1 ?_; refine T3.sIf ?_; refine T3.isBool ?_; refine T3.or1 ?_; refine T3.isCmp ?_ rfl); refine T3.nL (by kernel_rfl) rfl ?_; refine T3.cstr ?_; intro _; (with_reducible refine T3.sEq ?_; refine T3.truB ?_; refine no rfl ?_; refine T3.or1 ?_; refine T3.isCmp ?_ rfl); refine T3.nL (by kernel_rfl) rfl ?_; refine T3.cstr ?_; intro _; (with_reducible refine T3.sEq ?_; refine T3.truB ?_; refine yes rfl ?_; refine yes rfl ?_; refine T3.ss1 ?_; refine T3.sRet ?_; refine T3.cbool ?_; refine Nx.ret ?_; refine Nx.ret ?_)
    exact Bk.mk ⟨rfl, rfl⟩
  · rw [h]
    (with_reducible refine T3.aName ?_); refine T3.st rfl ?_ (by kernel_rfl); (with_reducible refine Nx.nx ?_; refine T3.ss1 ?_; refine T3.sIf ?_; refine T3.isBool ?_; refine T3.or1 ?_; refine T3.isCmp ?_ rfl); refine T3.nL (by kernel_rfl) rfl ?_; refine T3.cstr ?_; intro _; (with_reducible refine T3.sEq ?_; refine T3.truB ?_; refine no rfl ?_; refine T3.or1 ?_; refine T3.isCmp ?_ rfl); refine T3.nL (by kernel_rfl) rfl ?_; refine T3.cstr ?_; intro _; (with_reducible refine T3.sEq ?_; refine T3.truB ?_; refine no rfl ?_; refine T3.or1 ?_; refine T3.isCmp ?_ rfl); refine T3.nL (by kernel_rfl) rfl ?_; refine T3.cstr ?_; intro _; (with_reducible refine T3.sEq ?_; refine T3.truB ?_; refine yes rfl ?_; refine yes rfl ?_; refine T3.ss1 ?_; refine T3.sRet ?_; refine T3.cbool ?_; refine Nx.ret ?_; refine Nx.ret ?_)
    exact Bk.mk ⟨rfl, rfl⟩
  · rw [h]
    (with_reducible refine T3.aName ?_); refine T3.st rfl ?_ (by kernel_rfl); (with_reducible refine Nx.nx ?_; refine T3.ss1 ?_; refine T3.sIf ?_; refine T3.isBool ?_; refine T3.or1 ?_; refine T3.isCmp ?_ rfl); refine T3.nL (by kernel_rfl) rfl ?_; refine T3.cstr ?_; intro _; (with_reducible refine T3.sEq ?_; refine T3.truB ?_; refine no rfl ?_; refine T3.or1 ?_; refine T3.isCmp ?_ rfl); refine T3.nL (by kernel_rfl) rfl ?_; refine T3.cstr ?_; intro _; (with_reducible refine T3.sEq ?_; refine T3.truB ?_; refine no rfl ?_; refine T3.or1 ?_; refine T3.isCmp ?_ rfl); refine T3.nL (by kernel_rfl) rfl ?_; refine T3.cstr ?_; intro _; (with_reducible refine T3.sEq ?_; refine T3.truB ?_; refine no rfl ?_; refine T3.or0 ?_; refine no rfl ?_; refine T3.ss0 ?_; refine Nx.nx ?_; refine T3.ss1 ?_; refine T3.sIf ?_; refine T3.isNot ?_); refine T3.isT rfl ?_; (with_reducible refine T3.attr ?_ rfl); refine T3.nL (by kernel_rfl) rfl ?_; refine T3.gM (by assumption) (by (with_reducible (apply Le.ap); (focus assumption); assumption)) (List.mem_cons_of_mem _ List.mem_cons_self) (by first | assumption | kernel_rfl) (by kernel_rfl) rfl (by first | rfl | assumption) ?_; (with_reducible refine T3.truB ?_; refine no rfl ?_; refine T3.ss0 ?_; refine Nx.nx ?_; refine T3.ss1 ?_; refine T3.sIf ?_; refine T3.isCmp ?_ rfl); refine T3.nL (by kernel_rfl) rfl ?_; refine T3.nG (by assumption) (by kernel_rfl) rfl ?_; (with_reducible refine T3.sIn ?_; refine T3.truB ?_)
    refine yes (by kernel_rfl) ?_
    (with_reducible refine T3.ss1 ?_; refine T3.sRet ?_; refine T3.cbool ?_; refine Nx.ret ?_; refine Nx.ret ?_)
    exact Bk.mk ⟨rfl, rfl⟩
theorem ne_beq {a b : Nat} (h : a ≠ b) : (S [a] == S [b]) = false := by rw [S_beq]; simp [h]
theorem is_stop_f (kf : KF c) (hr : Room A 5) (hz : Fits T) (hx : P x = some (instObj 222 cd)) (hR : P R = some (instObj 907 rd)) {ch : Nat} (hs : T[p]? = some ch) (hc : ch ∉ [124, 41, 32, 9, 10, 47, 36]) :
    T3 c A (PySem.call (.ref 815) [.ref R]) P [(rd, IsF (rF x dv pat d td)), (cd, IsF (cF T t1 p t2))] (fun v P' σ' => σ' = [(rd, IsF (rF x dv pat d td)), (cd, IsF (cF T t1 p t2))] ∧ v = .bool false) NoE := by
  let Q1 : KO Value := fun v P' σ' => σ' = [(rd, IsF (rF x dv pat d td)), (cd, IsF (cF T t1 p t2))] ∧ v = .bool false
  show T3 _ _ _ _ _ Q1 _
  simp only [List.mem_cons, not_or] at hc
  refine e0x8 (hc) ?_; rintro c1 c2 c3 c4 c5 c6 c7 _
  refine T3.d0 kf.f_RegexReader_is_stop [("self", .ref R)] hr.dep (fun _ _ _ _ _ _ => by kernel_rfl) (by kernel_rfl) fun L cdv => ?_
  refine T3.ss1 ?_
  refine T3.sAsg ?_ rfl rfl rfl; refine T3.callm ?_ rfl rfl rfl (lit rfl); (with_reducible refine T3.attr ?_ rfl); refine T3.nL (by kernel_rfl) rfl ?_; refine T3.gM (by assumption) (by with_reducible assumption) (List.mem_cons_of_mem _ List.mem_cons_self) (by first | assumption | kernel_rfl) (by kernel_rfl) rfl (by first | rfl | assumption) ?_; refine T3.mFM (by assumption) (by with_reducible assumption) (List.mem_cons_of_mem _ (List.mem_cons_of_mem _ List.mem_cons_self)) (by first | assumption | kernel_rfl) rfl (by kernel_rfl) rfl ?_; refine T3.cw10 (by assumption) rfl ?_
  refine T3.frAt (pre := [_, _]) (peek0_ kf (by exact Room.le (Room.deeper (by assumption)) (lit rfl)) hz (by with_reducible assumption)) ?_
  rintro _ P1 _ l1 hqa; obtain ⟨rfl, _, rfl⟩ := hqa
  simp only [List.cons_append, List.nil_append, List.append_nil]
  rw [sg_some hs]
  (with_reducible refine T3.aName ?_); refine T3.st rfl ?_ (by kernel_rfl); (with_reducible refine Nx.nx ?_; refine T3.ss1 ?_; refine T3.sIf ?_; refine T3.isBool ?_; refine T3.or1 ?_; refine T3.isCmp ?_ rfl); refine T3.nL (by kernel_rfl) rfl ?_; refine T3.cstr ?_; intro _; (with_reducible refine T3.sEq ?_; refine T3.truB ?_; refine no rfl ?_; refine T3.or1 ?_; refine T3.isCmp ?_ rfl); refine T3.nL (by kernel_rfl) rfl ?_; refine T3.cstr ?_; intro _; (with_reducible refine T3.sEq ?_; refine T3.truB ?_)
  refine no (ne_beq c1) ?_
  (with_reducible refine T3.or1 ?_; refine T3.isCmp ?_ rfl); refine T3.nL (by kernel_rfl) rfl ?_; refine T3.cstr ?_; intro _; (with_reducible refine T3.sEq ?_; refine T3.truB ?_)
  refine no (ne_beq c2) ?_
  (with_reducible refine T3.or0 ?_; refine no rfl ?_; refine T3.ss0 ?_; refine Nx.nx ?_; refine T3.ss1 ?_; refine T3.sIf ?_; refine T3.isNot ?_); refine T3.isT rfl ?_; (with_reducible refine T3.attr ?_ rfl); refine T3.nL (by kernel_rfl) rfl ?_; refine T3.gM (by assumption) (by (with_reducible (apply Le.ap); (focus assumption); assumption)) (List.mem_cons_of_mem _ List.mem_cons_self) (by first | assumption | kernel_rfl) (by kernel_rfl) rfl (by first | rfl | assumption) ?_; (with_reducible refine T3.truB ?_)
  cases pat
  · (with_reducible refine yes rfl ?_; refine T3.ss1 ?_; refine T3.sRet ?_; refine T3.cbool ?_; refine Nx.ret ?_; refine Nx.ret ?_)
    exact Bk.mk ⟨rfl, rfl⟩
  · (with_reducible refine no rfl ?_; refine T3.ss0 ?_; refine Nx.nx ?_; refine T3.ss1 ?_; refine T3.sIf ?_; refine T3.isCmp ?_ rfl); refine T3.nL (by kernel_rfl) rfl ?_; refine T3.nG (by assumption) (by kernel_rfl) rfl ?_; (with_reducible refine T3.sIn ?_; refine T3.truB ?_)
    refine no (by
      show Txt.contains (S [32, 9, 10]) (S [ch]) = false
      rw [S_contains]; simp [c3, c4, c5]) ?_
    (with_reducible refine T3.ss0 ?_; refine Nx.nx ?_; refine T3.ss1 ?_; refine T3.sRet ?_; refine T3.boolE2 ?_; refine T3.boolAnd ?_; refine T3.cmp1 ?_ rfl; refine T3.attr ?_ rfl); refine T3.nL (by kernel_rfl) rfl ?_; refine T3.gM (by assumption) (by (with_reducible (apply Le.ap); (focus assumption); assumption)) (List.mem_cons_of_mem _ List.mem_cons_self) (by first | assumption | kernel_rfl) (by kernel_rfl) rfl (by first | rfl | assumption) ?_; refine T3.cint ?_; intro _; (with_reducible refine T3.iEq ?_; refine T3.truB ?_)
    by_cases hd0 : d = 0
    · subst hd0
      (with_reducible refine yes rfl ?_; refine T3.boolLast ?_; refine T3.boolE2 ?_; refine T3.boolOr ?_; refine T3.cmp1 ?_ rfl); refine T3.nL (by kernel_rfl) rfl ?_; refine T3.cstr ?_; intro _; (with_reducible refine T3.sEq ?_; refine T3.truB ?_)
      refine no (ne_beq c6) ?_
      (with_reducible refine T3.boolLast ?_; refine T3.cmp1 ?_ rfl); refine T3.nL (by kernel_rfl) rfl ?_; refine T3.cstr ?_; intro _; (with_reducible refine T3.sEq ?_; refine Nx.ret ?_)
      exact Bk.mk ⟨rfl, congrArg Value.bool (ne_beq c7)⟩
    · refine no (by simpa using hd0) ?_
      (with_reducible refine Nx.ret ?_)
      exact Bk.mk ⟨rfl, congrArg Value.bool (by simpa using hd0)⟩
theorem code_of_ (kf : KF c) (hr : Room A 3) {ch : Nat} {ts tb : Tok} (hc : ch ≤ 127) (h92 : ch ≠ 92) : T3 c A (PySem.call (.ref 864) [.ref R, .str (S [ch]) ts, .int p tb]) P [] (fun v P' σ' => (∃ t, v = .int ch t) ∧ σ' = []) NoE := by
  let Q1 : KO Value := fun v P' σ' => (∃ t, v = .int ch t) ∧ σ' = []
  show T3 _ _ _ _ _ Q1 _
  refine T3.d0 kf.f_RegexReader_code_of [("begun", .int p tb), ("sign", .str (S [ch]) ts), ("self", .ref R)] hr.dep (fun _ _ _ _ _ _ => by kernel_rfl) (by kernel_rfl) fun L cdv => ?_
  refine T3.ss1 ?_
  refine T3.sAsg ?_ rfl rfl rfl; refine T3.nL (by kernel_rfl) rfl ?_; (with_reducible refine T3.aName ?_); refine T3.st rfl ?_ (by kernel_rfl); (with_reducible refine Nx.nx ?_; refine T3.ss1 ?_; refine T3.sIf ?_; refine T3.isCmp ?_ rfl); refine T3.nL (by kernel_rfl) rfl ?_; refine T3.cstr ?_; intro _; (with_reducible refine T3.sEq ?_; refine T3.truB ?_)
  refine no (ne_beq h92) ?_
  (with_reducible refine T3.ss0 ?_; refine Nx.nx ?_; refine T3.ss1 ?_); refine T3.sAsg ?_ rfl rfl rfl; (with_reducible refine T3.calln ?_ rfl); refine T3.nB (by assumption) (by kernel_rfl) (by boot_by_name) ?_; (with_reducible refine T3.cwB ?_; refine T3.ar1 ?_); refine T3.nL (by kernel_rfl) rfl ?_; (with_reducible refine T3.ar0 ?_); refine T3.cOrd ?_; intro _; (with_reducible refine T3.aName ?_); refine T3.st rfl ?_ (by kernel_rfl); (with_reducible refine Nx.nx ?_; refine T3.ss1 ?_; refine T3.sIf ?_; refine T3.isCmp ?_ rfl); refine T3.nL (by kernel_rfl) rfl ?_; refine T3.nG (by assumption) (by kernel_rfl) rfl ?_; (with_reducible refine T3.iGt ?_; refine T3.truB ?_)
  refine no (by simp; omega) ?_
  (with_reducible refine T3.ss0 ?_; refine Nx.nx ?_; refine T3.ss1 ?_; refine T3.sRet ?_); refine T3.nL (by kernel_rfl) rfl ?_; (with_reducible refine Nx.ret ?_)
  exact Bk.mk ⟨⟨_, rfl⟩, rfl⟩
theorem looped_ (kf : KF c) (hr : Room A 9) (hz : Fits T) (hx : P x = some (instObj 222 cd)) (hR : P R = some (instObj 907 rd)) {nv : Addr} (hn : Node P (.ref nv) t) (ks : List LK) (hk : ks.length ≤ 20)
    (hks : ∀ i k, ks[i]? = some k → T[p + i]? = some k.sign) (he : sg T (p + ks.length) ≠ [42] ∧ sg T (p + ks.length) ≠ [43] ∧ sg T (p + ks.length) ≠ [63] ∧ sg T (p + ks.length) ≠ [123]) :
    T3 c A (PySem.call (.ref 836) [.ref R, .ref nv]) P [(rd, IsF (rF x dv pat d td)), (cd, IsF (cF T t1 p t2))] (fun v P' σ' => Node P' v (loops ks t) ∧ ∃ t2', σ' = [(rd, IsF (rF x dv pat d td)), (cd, IsF (cF T t1 (p + ks.length : Nat) t2'))]) NoE := by
  let Q1 : KO Value := fun v P' σ' => Node P' v (loops ks t) ∧ ∃ t2', σ' = [(rd, IsF (rF x dv pat d td)), (cd, IsF (cF T t1 (p + ks.length : Nat) t2'))]
  show T3 _ _ _ _ _ Q1 _
  refine T3.d0 kf.f_RegexReader_looped [("part", .ref nv), ("self", .ref R)] hr.dep (fun _ _ _ _ _ _ => by kernel_rfl) (by kernel_rfl) fun L cdv => ?_
  have hd : Room (A.deeper (mkE (fdS (clsS 54 6)) (Str.ofString "RegexReader.looped") L 836 cdv)) 8 := hr.deeper
  refine T3.ss1 ?_
  refine T3.sAsg ?_ rfl rfl rfl; refine T3.nL (by kernel_rfl) rfl ?_; (with_reducible refine T3.aName ?_); refine T3.st rfl ?_ (by kernel_rfl); (with_reducible refine Nx.nx ?_; refine T3.ss1 ?_); refine T3.sFor ?_ (fun _ => rfl); (with_reducible refine T3.calln ?_ rfl); refine T3.nB (by assumption) (by kernel_rfl) (by boot_by_name) ?_; (with_reducible refine T3.cwT ?_; refine T3.ar1 ?_; refine T3.binop ?_); refine T3.nG (by assumption) (by kernel_rfl) rfl ?_; refine T3.cint ?_; intro _; refine T3.iAdd ?_; intro _; (with_reducible refine T3.ar0 ?_)
  refine T3.newRa fun ra P1 l1 hra => ?_
  let I1 : Nat → Vw → St → Prop := fun i P' σ' => i ≤ ks.length ∧ ∃ m v t2', σ' = [(L, NsP m), (rd, IsF (rF x dv pat d td)), (cd, IsF (cF T t1 (p + i : Nat) t2'))] ∧ Has m [(Str.ofString "node", .ref v), (Str.ofString "self", .ref R)] ∧ Node P' (.ref v) (loops (ks.take i) t)
  refine T3.itRa (n := 21) hra (by decide) hd.no I1
    ⟨Nat.zero_le _, _, nv, _, rfl, by repeat (first | exact Has.nil | refine Has.cons rfl ?_), hn.le l1⟩ ⟨?_, ?_⟩
  · rintro i v P2 _ l2 hi ⟨tk, rfl⟩ hqa; obtain ⟨hik, hqb⟩ := hqa; refine e3x3 hqb ?_; clear hqb; rintro m nd t2' hra hm hnd; subst hra
    refine T3.forget hm ?_
    (with_reducible refine T3.aName ?_); refine T3.st rfl ?_ (by kernel_rfl); (with_reducible refine T3.ss1 ?_); refine T3.sAsg ?_ rfl rfl rfl; (with_reducible refine T3.attr ?_ rfl; refine T3.attr ?_ rfl); refine T3.nL (by kernel_rfl) rfl ?_; refine T3.gM (by assumption) (by (with_reducible (apply Le.ap); (focus assumption); (apply Le.ap); (focus assumption); assumption)) (List.mem_cons_of_mem _ List.mem_cons_self) (by first | assumption | kernel_rfl) (by kernel_rfl) rfl (by first | rfl | assumption) ?_; refine T3.gM (by assumption) (by (with_reducible (apply Le.ap); (focus assumption); (apply Le.ap); (focus assumption); assumption)) (List.mem_cons_of_mem _ (List.mem_cons_of_mem _ List.mem_cons_self)) (by first | assumption | kernel_rfl) (by kernel_rfl) rfl (by first | rfl | assumption) ?_; (with_reducible refine T3.aName ?_); refine T3.st rfl ?_ (by kernel_rfl); (with_reducible refine Nx.nx ?_; refine T3.ss1 ?_; refine T3.sIf ?_); refine T3.isT rfl ?_; refine T3.callm ?_ rfl rfl rfl (lit rfl); (with_reducible refine T3.attr ?_ rfl); refine T3.nL (by kernel_rfl) rfl ?_; refine T3.gM (by assumption) (by (with_reducible (apply Le.ap); (focus assumption); (apply Le.ap); (focus assumption); assumption)) (List.mem_cons_of_mem _ List.mem_cons_self) (by first | assumption | kernel_rfl) (by kernel_rfl) rfl (by first | rfl | assumption) ?_; refine T3.mFM (by assumption) (by (with_reducible (apply Le.ap); (focus assumption); (apply Le.ap); (focus assumption); assumption)) (List.mem_cons_of_mem _ (List.mem_cons_of_mem _ List.mem_cons_self)) (by first | assumption | kernel_rfl) rfl (by kernel_rfl) rfl ?_; refine T3.cw1 (by assumption) rfl ?_; (with_reducible refine T3.ar1 ?_); refine T3.cstr ?_; intro _; (with_reducible refine T3.ar0 ?_)
    have hlt : ∀ w : Nat, Str.ofString "*" = S [42] ∧ Str.ofString "+" = S [43] ∧ Str.ofString "?" = S [63] ∧ Str.ofString "{" = S [123] := fun _ => ⟨rfl, rfl, rfl, rfl⟩
    refine e0x4 (hlt 0) ?_; rintro w1 w2 w3 w4
    rw [w1]
    refine T3.frAt (pre := [_, _]) (skip_ (w := [42]) kf (by exact Room.le (by assumption) (lit rfl)) hz (by (with_reducible (apply Le.ap); (focus assumption); (apply Le.ap); (focus assumption); assumption)) (by decide)) ?_
    rintro _ P3 _ l3 hqa; obtain ⟨rfl, t3, rfl⟩ := hqa
    simp only [List.cons_append, List.nil_append, List.append_nil]
    (with_reducible refine T3.truB ?_)
    rw [atW_one]
    have hg : i < ks.length → ∃ k, ks[i]? = some k ∧ sg T (p + i) = [k.sign] ∧ ks.take (i + 1) = ks.take i ++ [k] := fun h => ⟨_, List.getElem?_eq_getElem h, sg_some (hks i _ (List.getElem?_eq_getElem h)), by rw [List.take_add_one, List.getElem?_eq_getElem h]; rfl⟩
    have fin : ∀ {P4 : Vw} {v : Addr} {k : LK}, ks.take (i + 1) = ks.take i ++ [k] → Node P4 (.ref v) (.loop k (loops (ks.take i) t)) → Node P4 (.ref v) (loops (ks.take (i + 1)) t) := fun e h => by
      rw [e]; unfold loops; rw [List.foldl_append]; exact h
    by_cases hc : i < ks.length
    · refine e1x3 (hg hc) ?_; rintro k hk1 hk2 hk3
      rw [hk2]
      cases k
      · refine yes (by decide) ?_
        (with_reducible refine T3.ss1 ?_); refine T3.sAsg ?_ rfl rfl rfl; (with_reducible refine T3.calln ?_ rfl); refine T3.nG (by assumption) (by kernel_rfl) rfl ?_; refine T3.cwC (by assumption) rfl ?_; (with_reducible refine T3.ar1 ?_); refine T3.nL (by kernel_rfl) rfl ?_; (with_reducible refine T3.ar0 ?_)
        refine T3.fr0 (loop_new kf (by exact Room.le (by assumption) (lit rfl)) .star (hnd.le l3)) ?_ (fun _ _ _ q => q.2)
        rintro _ P4 l4 ⟨hv, _⟩
        obtain ⟨v, rfl⟩ := hv.ref
        (with_reducible refine T3.aName ?_); refine T3.st rfl ?_ (by kernel_rfl); (with_reducible refine Nx.nx ?_; refine T3.ss0 ?_; refine Nx.nx ?_; refine T3.ss0 ?_)
        exact ⟨hc, i3x3 _ v _ rfl (by repeat (first | exact Has.nil | refine Has.cons rfl ?_)) (fin hk3 hv)⟩
      · refine no (by decide) ?_
        rw [if_neg (by decide)]
        (with_reducible refine T3.ss1 ?_; refine T3.sIf ?_); refine T3.isT rfl ?_; refine T3.callm ?_ rfl rfl rfl (lit rfl); (with_reducible refine T3.attr ?_ rfl); refine T3.nL (by kernel_rfl) rfl ?_; refine T3.gM (by assumption) (by (with_reducible (apply Le.ap); (focus assumption); (apply Le.ap); (focus assumption); (apply Le.ap); (focus assumption); assumption)) (List.mem_cons_of_mem _ List.mem_cons_self) (by first | assumption | kernel_rfl) (by kernel_rfl) rfl (by first | rfl | assumption) ?_; refine T3.mFM (by assumption) (by (with_reducible (apply Le.ap); (focus assumption); (apply Le.ap); (focus assumption); (apply Le.ap); (focus assumption); assumption)) (List.mem_cons_of_mem _ (List.mem_cons_of_mem _ List.mem_cons_self)) (by first | assumption | kernel_rfl) rfl (by kernel_rfl) rfl ?_; refine T3.cw1 (by assumption) rfl ?_; (with_reducible refine T3.ar1 ?_); refine T3.cstr ?_; intro _; (with_reducible refine T3.ar0 ?_)
        rw [w2]
        refine T3.frAt (pre := [_, _]) (skip_ (w := [43]) kf (by exact Room.le (by assumption) (lit rfl)) hz (by (with_reducible (apply Le.ap); (focus assumption); (apply Le.ap); (focus assumption); (apply Le.ap); (focus assumption); assumption)) (by decide)) ?_
        rintro _ P4 _ l4 hqa; obtain ⟨rfl, t4, rfl⟩ := hqa
        simp only [List.cons_append, List.nil_append, List.append_nil]
        (with_reducible refine T3.truB ?_)
        rw [atW_one, hk2]
        refine yes (by decide) ?_
        (with_reducible refine T3.ss1 ?_); refine T3.sAsg ?_ rfl rfl rfl; (with_reducible refine T3.calln ?_ rfl); refine T3.nG (by assumption) (by kernel_rfl) rfl ?_; refine T3.cwC (by assumption) rfl ?_; (with_reducible refine T3.ar1 ?_); refine T3.nL (by kernel_rfl) rfl ?_; (with_reducible refine T3.ar0 ?_)
        refine T3.fr0 (loop_new kf (by exact Room.le (by assumption) (lit rfl)) .plus ((hnd.le l3).le l4)) ?_ (fun _ _ _ q => q.2)
        rintro _ P5 l5 ⟨hv, _⟩
        obtain ⟨v, rfl⟩ := hv.ref
        (with_reducible refine T3.aName ?_); refine T3.st rfl ?_ (by kernel_rfl); (with_reducible refine Nx.nx ?_; refine T3.ss0 ?_; refine Nx.nx ?_; refine T3.ss0 ?_; refine Nx.nx ?_; refine T3.ss0 ?_)
        exact ⟨hc, i3x3 _ v _ rfl (by repeat (first | exact Has.nil | refine Has.cons rfl ?_)) (fin hk3 hv)⟩
      · refine no (by decide) ?_
        rw [if_neg (by decide)]
        (with_reducible refine T3.ss1 ?_; refine T3.sIf ?_); refine T3.isT rfl ?_; refine T3.callm ?_ rfl rfl rfl (lit rfl); (with_reducible refine T3.attr ?_ rfl); refine T3.nL (by kernel_rfl) rfl ?_; refine T3.gM (by assumption) (by (with_reducible (apply Le.ap); (focus assumption); (apply Le.ap); (focus assumption); (apply Le.ap); (focus assumption); assumption)) (List.mem_cons_of_mem _ List.mem_cons_self) (by first | assumption | kernel_rfl) (by kernel_rfl) rfl (by first | rfl | assumption) ?_; refine T3.mFM (by assumption) (by (with_reducible (apply Le.ap); (focus assumption); (apply Le.ap); (focus assumption); (apply Le.ap); (focus assumption); assumption)) (List.mem_cons_of_mem _ (List.mem_cons_of_mem _ List.mem_cons_self)) (by first | assumption | kernel_rfl) rfl (by kernel_rfl) rfl ?_; refine T3.cw1 (by assumption) rfl ?_; (with_reducible refine T3.ar1 ?_); refine T3.cstr ?_; intro _; (with_reducible refine T3.ar0 ?_)
        rw [w2]
        refine T3.frAt (pre := [_, _]) (skip_ (w := [43]) kf (by exact Room.le (by assumption) (lit rfl)) hz (by (with_reducible (apply Le.ap); (focus assumption); (apply Le.ap); (focus assumption); (apply Le.ap); (focus assumption); assumption)) (by decide)) ?_
        rintro _ P4 _ l4 hqa; obtain ⟨rfl, t4, rfl⟩ := hqa
        simp only [List.cons_append, List.nil_append, List.append_nil]
        (with_reducible refine T3.truB ?_)
        rw [atW_one, hk2]
        refine no (by decide) ?_
        rw [if_neg (by decide)]
        (with_reducible refine T3.ss1 ?_; refine T3.sIf ?_); refine T3.isT rfl ?_; refine T3.callm ?_ rfl rfl rfl (lit rfl); (with_reducible refine T3.attr ?_ rfl); refine T3.nL (by kernel_rfl) rfl ?_; refine T3.gM (by assumption) (by (with_reducible (apply Le.ap); (focus assumption); (apply Le.ap); (focus assumption); (apply Le.ap); (focus assumption); (apply Le.ap); (focus assumption); assumption)) (List.mem_cons_of_mem _ List.mem_cons_self) (by first | assumption | kernel_rfl) (by kernel_rfl) rfl (by first | rfl | assumption) ?_; refine T3.mFM (by assumption) (by (with_reducible (apply Le.ap); (focus assumption); (apply Le.ap); (focus assumption); (apply Le.ap); (focus assumption); (apply Le.ap); (focus assumption); assumption)) (List.mem_cons_of_mem _ (List.mem_cons_of_mem _ List.mem_cons_self)) (by first | assumption | kernel_rfl) rfl (by kernel_rfl) rfl ?_; refine T3.cw1 (by assumption) rfl ?_; (with_reducible refine T3.ar1 ?_); refine T3.cstr ?_; intro _; (with_reducible refine T3.ar0 ?_)
        rw [w3]
        refine T3.frAt (pre := [_, _]) (skip_ (w := [63]) kf (by exact Room.le (by assumption) (lit rfl)) hz (by (with_reducible (apply Le.ap); (focus assumption); (apply Le.ap); (focus assumption); (apply Le.ap); (focus assumption); (apply Le.ap); (focus assumption); assumption)) (by decide)) ?_
        rintro _ P5 _ l5 hqa; obtain ⟨rfl, t5, rfl⟩ := hqa
        simp only [List.cons_append, List.nil_append, List.append_nil]
        (with_reducible refine T3.truB ?_)
        rw [atW_one, hk2]
        refine yes (by decide) ?_
        (with_reducible refine T3.ss1 ?_); refine T3.sAsg ?_ rfl rfl rfl; (with_reducible refine T3.calln ?_ rfl); refine T3.nG (by assumption) (by kernel_rfl) rfl ?_; refine T3.cwC (by assumption) rfl ?_; (with_reducible refine T3.ar1 ?_); refine T3.nL (by kernel_rfl) rfl ?_; (with_reducible refine T3.ar0 ?_)
        refine T3.fr0 (loop_new kf (by exact Room.le (by assumption) (lit rfl)) .opt (((hnd.le l3).le l4).le l5)) ?_ (fun _ _ _ q => q.2)
        rintro _ P6 l6 ⟨hv, _⟩
        obtain ⟨v, rfl⟩ := hv.ref
        (with_reducible refine T3.aName ?_); refine T3.st rfl ?_ (by kernel_rfl); (with_reducible refine Nx.nx ?_; refine T3.ss0 ?_; refine Nx.nx ?_; refine T3.ss0 ?_; refine Nx.nx ?_; refine T3.ss0 ?_; refine Nx.nx ?_; refine T3.ss0 ?_)
        exact ⟨hc, i3x3 _ v _ rfl (by repeat (first | exact Has.nil | refine Has.cons rfl ?_)) (fin hk3 hv)⟩
    · obtain rfl : i = ks.length := by omega
      refine e0x4 (he) ?_; rintro e1 e2 e3 e4
      have b1 : (sg T (p + ks.length) == [42]) = false := by simpa using e1
      have b2 : (sg T (p + ks.length) == [43]) = false := by simpa using e2
      have b3 : (sg T (p + ks.length) == [63]) = false := by simpa using e3
      have b4 : (S (sg T (p + ks.length)) == S [123]) = false := by rw [S_beq]; simpa using e4
      refine no b1 ?_
      rw [b1, if_neg Bool.false_ne_true]
      (with_reducible refine T3.ss1 ?_; refine T3.sIf ?_); refine T3.isT rfl ?_; refine T3.callm ?_ rfl rfl rfl (lit rfl); (with_reducible refine T3.attr ?_ rfl); refine T3.nL (by kernel_rfl) rfl ?_; refine T3.gM (by assumption) (by (with_reducible (apply Le.ap); (focus assumption); (apply Le.ap); (focus assumption); (apply Le.ap); (focus assumption); assumption)) (List.mem_cons_of_mem _ List.mem_cons_self) (by first | assumption | kernel_rfl) (by kernel_rfl) rfl (by first | rfl | assumption) ?_; refine T3.mFM (by assumption) (by (with_reducible (apply Le.ap); (focus assumption); (apply Le.ap); (focus assumption); (apply Le.ap); (focus assumption); assumption)) (List.mem_cons_of_mem _ (List.mem_cons_of_mem _ List.mem_cons_self)) (by first | assumption | kernel_rfl) rfl (by kernel_rfl) rfl ?_; refine T3.cw1 (by assumption) rfl ?_; (with_reducible refine T3.ar1 ?_); refine T3.cstr ?_; intro _; (with_reducible refine T3.ar0 ?_)
      rw [w2]
      refine T3.frAt (pre := [_, _]) (skip_ (w := [43]) kf (by exact Room.le (by assumption) (lit rfl)) hz (by (with_reducible (apply Le.ap); (focus assumption); (apply Le.ap); (focus assumption); (apply Le.ap); (focus assumption); assumption)) (by decide)) ?_
      rintro _ P4 _ l4 hqa; obtain ⟨rfl, t4, rfl⟩ := hqa
      simp only [List.cons_append, List.nil_append, List.append_nil]
      (with_reducible refine T3.truB ?_)
      rw [atW_one, b2, if_neg Bool.false_ne_true]
      (with_reducible refine no rfl ?_; refine T3.ss1 ?_; refine T3.sIf ?_); refine T3.isT rfl ?_; refine T3.callm ?_ rfl rfl rfl (lit rfl); (with_reducible refine T3.attr ?_ rfl); refine T3.nL (by kernel_rfl) rfl ?_; refine T3.gM (by assumption) (by (with_reducible (apply Le.ap); (focus assumption); (apply Le.ap); (focus assumption); (apply Le.ap); (focus assumption); (apply Le.ap); (focus assumption); assumption)) (List.mem_cons_of_mem _ List.mem_cons_self) (by first | assumption | kernel_rfl) (by kernel_rfl) rfl (by first | rfl | assumption) ?_; refine T3.mFM (by assumption) (by (with_reducible (apply Le.ap); (focus assumption); (apply Le.ap); (focus assumption); (apply Le.ap); (focus assumption); (apply Le.ap); (focus assumption); assumption)) (List.mem_cons_of_mem _ (List.mem_cons_of_mem _ List.mem_cons_self)) (by first | assumption | kernel_rfl) rfl (by kernel_rfl) rfl ?_; refine T3.cw1 (by assumption) rfl ?_; (with_reducible refine T3.ar1 ?_); refine T3.cstr ?_; intro _; (with_reducible refine T3.ar0 ?_)
      rw [w3]
      refine T3.frAt (pre := [_, _]) (skip_ (w := [63]) kf (by exact Room.le (by assumption) (lit rfl)) hz (by (with_reducible (apply Le.ap); (focus assumption); (apply Le.ap); (focus assumption); (apply Le.ap); (focus assumption); (apply Le.ap); (focus assumption); assumption)) (by decide)) ?_
      rintro _ P5 _ l5 hqa; obtain ⟨rfl, t5, rfl⟩ := hqa
      simp only [List.cons_append, List.nil_append, List.append_nil]
      (with_reducible refine T3.truB ?_)
      rw [atW_one, b3, if_neg Bool.false_ne_true]
      (with_reducible refine no rfl ?_; refine T3.ss1 ?_; refine T3.sIf ?_; refine T3.isBool ?_; refine T3.and1 ?_; refine T3.isCmp ?_ rfl); refine T3.callm ?_ rfl rfl rfl (lit rfl); (with_reducible refine T3.attr ?_ rfl); refine T3.nL (by kernel_rfl) rfl ?_; refine T3.gM (by assumption) (by (with_reducible (apply Le.ap); (focus assumption); (apply Le.ap); (focus assumption); (apply Le.ap); (focus assumption); (apply Le.ap); (focus assumption); (apply Le.ap); (focus assumption); assumption)) (List.mem_cons_of_mem _ List.mem_cons_self) (by first | assumption | kernel_rfl) (by kernel_rfl) rfl (by first | rfl | assumption) ?_; refine T3.mFM (by assumption) (by (with_reducible (apply Le.ap); (focus assumption); (apply Le.ap); (focus assumption); (apply Le.ap); (focus assumption); (apply Le.ap); (focus assumption); (apply Le.ap); (focus assumption); assumption)) (List.mem_cons_of_mem _ (List.mem_cons_of_mem _ List.mem_cons_self)) (by first | assumption | kernel_rfl) rfl (by kernel_rfl) rfl ?_; refine T3.cw10 (by assumption) rfl ?_
      refine T3.frAt (pre := [_, _]) (peek0_ kf (by exact Room.le (by assumption) (lit rfl)) hz (by (with_reducible (apply Le.ap); (focus assumption); (apply Le.ap); (focus assumption); (apply Le.ap); (focus assumption); (apply Le.ap); (focus assumption); (apply Le.ap); (focus assumption); assumption))) ?_
      rintro _ P6 _ l6 hqa; obtain ⟨rfl, _, rfl⟩ := hqa
      simp only [List.cons_append, List.nil_append, List.append_nil]
      refine T3.cstr ?_; intro _; (with_reducible refine T3.sEq ?_; refine T3.truB ?_)
      refine no b4 ?_
      (with_reducible refine no rfl ?_; refine T3.ss1 ?_; refine T3.sRet ?_); refine T3.nL (by kernel_rfl) rfl ?_; (with_reducible refine Nx.ret ?_; refine Nx.ret ?_; refine Nx.ret ?_; refine Nx.ret ?_; refine Nx.ret ?_; refine Nx.ret ?_)
      rw [List.take_length] at hnd
      exact Bk.mk ⟨(((hnd.le l3).le l4).le l5).le l6, _, rfl⟩
  · rintro P2 _ l2 ⟨hik, _⟩
    omega
end
section
variable {c : Cx} {A : Around} {P : Vw} {σ δ : St} {E : Value → Vw → St → Prop} {env : Env} {Q : Value → Vw → St → Prop} {t : Tr} {x cd R rd : Addr} {b pat : Bool} {T : List Nat} {p d : Nat} {t1 t2 td : Tok} {dv : Value} {D : List (List Nat × Tr)}
theorem T3.isSN {w : Str} {k : Tok} (h : Q (.bool false) P σ) : T3 c A (compareOp .Is (.str w k) .none) P σ Q E := fun τ s g => wpAny_is_other rfl (by intro q; cases q) (en g h)
theorem rquoted_ (kf : KF c) (hr : Room A 13) (hz : Fits T) (hx : P x = some (instObj 222 cd)) (hR : P R = some (instObj 907 rd)) {ca cb : Nat} (hq : T[p]? = some 34) (h0 : T[p + 1]? = some ca) (h1 : T[p + 2]? = some cb) (h2 : T[p + 3]? = some 34)
    (ha : ca ≠ 34 ∧ ca ≠ 92 ∧ ca ≠ 10 ∧ ca ≤ 127) (hb : cb ≠ 34 ∧ cb ≠ 92 ∧ cb ≠ 10 ∧ cb ≤ 127) {tb : Tok} :
    T3 c A (PySem.call (.ref 869) [.ref R, .int p tb]) P [(rd, IsF (rF x dv pat d td)), (cd, IsF (cF T t1 (p + 1 : Nat) t2))] (fun v P' σ' => Node P' v (.cat (.chr ca) (.chr cb)) ∧ ∃ t2', σ' = [(rd, IsF (rF x dv pat d td)), (cd, IsF (cF T t1 (p + 4 : Nat) t2'))]) NoE := by
  let Q1 : KO Value := fun v P' σ' => Node P' v (.cat (.chr ca) (.chr cb)) ∧ ∃ t2', σ' = [(rd, IsF (rF x dv pat d td)), (cd, IsF (cF T t1 (p + 4 : Nat) t2'))]
  show T3 _ _ _ _ _ Q1 _
  refine T3.d0 kf.f_RegexReader_quoted [("begun", .int p tb), ("self", .ref R)] hr.dep (fun _ _ _ _ _ _ => by kernel_rfl) (by kernel_rfl) fun L cdv => ?_
  have hd : Room (A.deeper (mkE (fdS (clsS 54 11)) (Str.ofString "RegexReader.quoted") L 869 cdv)) 12 := hr.deeper
  have hlt := (List.getElem?_eq_some_iff.mp h2).1
  refine T3.ss1 ?_
  refine T3.sAsg ?_ rfl rfl rfl; refine T3.callm ?_ rfl rfl rfl (lit rfl); (with_reducible refine T3.attr ?_ rfl); refine T3.nL (by kernel_rfl) rfl ?_; refine T3.gM (by assumption) (by with_reducible assumption) (List.mem_cons_of_mem _ List.mem_cons_self) (by first | assumption | kernel_rfl) (by kernel_rfl) rfl (by first | rfl | assumption) ?_; refine T3.mFM (by assumption) (by with_reducible assumption) (List.mem_cons_of_mem _ (List.mem_cons_of_mem _ List.mem_cons_self)) (by first | assumption | kernel_rfl) rfl (by kernel_rfl) rfl ?_; refine T3.cw1 (by assumption) rfl ?_; (with_reducible refine T3.ar1 ?_); refine T3.cstr ?_; intro _; (with_reducible refine T3.ar0 ?_)
  rw [show Str.ofString "\"" = S [34] from rfl]
  refine T3.frAt (pre := [_, _]) (cquoted_ kf (by exact Room.le (by assumption) (lit rfl)) hz (by with_reducible assumption) h0 h1 h2 ⟨ha.1, ha.2.1⟩ ⟨hb.1, hb.2.1⟩) ?_
  rintro _ P1 _ l1 hqa; obtain ⟨⟨t', rfl⟩, t'', rfl⟩ := hqa
  simp only [List.cons_append, List.nil_append, List.append_nil]
  (with_reducible refine T3.aName ?_); refine T3.st rfl ?_ (by kernel_rfl); (with_reducible refine Nx.nx ?_; refine T3.ss1 ?_; refine T3.sIf ?_; refine T3.isCmp ?_ rfl); refine T3.nL (by kernel_rfl) rfl ?_; (with_reducible refine T3.cnone ?_)
  refine T3.isSN ?_
  (with_reducible refine T3.truB ?_; refine no rfl ?_; refine T3.ss0 ?_; refine Nx.nx ?_; refine T3.ss1 ?_); refine T3.sAsg ?_ rfl rfl rfl; refine T3.subSl ?_ (fun _ _ => ⟨_, rfl⟩); (with_reducible refine T3.attr ?_ rfl; refine T3.attr ?_ rfl); refine T3.nL (by kernel_rfl) rfl ?_; refine T3.gM (by assumption) (by (with_reducible (apply Le.ap); (focus assumption); assumption)) (List.mem_cons_of_mem _ List.mem_cons_self) (by first | assumption | kernel_rfl) (by kernel_rfl) rfl (by first | rfl | assumption) ?_; refine T3.gM (by assumption) (by (with_reducible (apply Le.ap); (focus assumption); assumption)) (List.mem_cons_of_mem _ (List.mem_cons_of_mem _ List.mem_cons_self)) (by first | assumption | kernel_rfl) (by kernel_rfl) rfl (by first | rfl | assumption) ?_; (with_reducible refine T3.part1 ?_); refine T3.nL (by kernel_rfl) rfl ?_; (with_reducible refine T3.part1 ?_; refine T3.attr ?_ rfl; refine T3.attr ?_ rfl); refine T3.nL (by kernel_rfl) rfl ?_; refine T3.gM (by assumption) (by (with_reducible (apply Le.ap); (focus assumption); assumption)) (List.mem_cons_of_mem _ List.mem_cons_self) (by first | assumption | kernel_rfl) (by kernel_rfl) rfl (by first | rfl | assumption) ?_; refine T3.gM (by assumption) (by (with_reducible (apply Le.ap); (focus assumption); assumption)) (List.mem_cons_of_mem _ (List.mem_cons_of_mem _ List.mem_cons_self)) (by first | assumption | kernel_rfl) (by kernel_rfl) rfl (by first | rfl | assumption) ?_; (with_reducible refine T3.part0 ?_)
  intro sl P2 l2 hs
  (with_reducible refine T3.gStr ?_)
  refine T3.sSliceS (a := p) (b := p + 1 + 3) hs rfl rfl (by omega) fun _ => ?_
  (with_reducible refine T3.aName ?_); refine T3.st rfl ?_ (by kernel_rfl); (with_reducible refine Nx.nx ?_; refine T3.ss1 ?_; refine T3.sIf ?_; refine T3.isCmp ?_ rfl); refine T3.nG (by assumption) (by kernel_rfl) rfl ?_; refine T3.nL (by kernel_rfl) rfl ?_; (with_reducible refine T3.sIn ?_; refine T3.truB ?_)
  have e : (T.drop p).take (p + 1 + 3 - p) = [34, ca, cb, 34] := by
    have e1 : p + 1 + 3 - p = 4 := by omega
    have g : ∀ i ch, T[p + i]? = some ch → (T.drop p)[i]? = some ch := fun i ch h => by rw [List.getElem?_drop]; exact h
    rw [e1]
    have k0 := g 0 34 hq
    have k1 := g 1 ca h0
    have k2 := g 2 cb h1
    have k3 := g 3 34 h2
    apply List.ext_getElem?
    intro i
    rcases i with _ | _ | _ | _ | i
    · rw [List.getElem?_take_of_lt (lit rfl), k0]; rfl
    · rw [List.getElem?_take_of_lt (lit rfl), k1]; rfl
    · rw [List.getElem?_take_of_lt (lit rfl), k2]; rfl
    · rw [List.getElem?_take_of_lt (lit rfl), k3]; rfl
    · rw [List.getElem?_eq_none (by simp; omega), List.getElem?_eq_none (by simp)]
  refine no (by
    rw [e]
    show Txt.contains (S [34, ca, cb, 34]) (S [10]) = false
    rw [S_contains]; simp [ha.2.2.1.symm, hb.2.2.1.symm]) ?_
  (with_reducible refine T3.ss0 ?_; refine Nx.nx ?_; refine T3.ss1 ?_); refine T3.sFor ?_ (fun _ => rfl); refine T3.nL (by kernel_rfl) rfl ?_
  let I1 : Nat → Vw → St → Prop := fun i P' σ' => ∃ m, σ' = [(L, NsP m), (rd, IsF (rF x dv pat d td)), (cd, IsF (cF T t1 (p + 1 + 3 : Nat) t'))] ∧ Has m [(Str.ofString "text", .str (S [ca, cb]) t'')]
  refine T3.itS (ws := [ca, cb]) (by simp; omega) hd.no I1 ⟨_, rfl, by repeat (first | exact Has.nil | refine Has.cons rfl ?_)⟩ ⟨?_, ?_⟩
  · rintro i v P3 _ l3 hi hqa ⟨m, rfl, hm⟩; refine e2x2 hqa ?_; clear hqa; rintro ch tk hch hra; subst hra
    have hle : ch ≤ 127 := by
      rcases i with _ | _ | i
      · obtain rfl : ca = ch := by simpa using hch
        exact ha.2.2.2
      · obtain rfl : cb = ch := by simpa using hch
        exact hb.2.2.2
      · simp at hi; omega
    refine T3.forget hm ?_
    (with_reducible refine T3.aName ?_); refine T3.st rfl ?_ (by kernel_rfl); (with_reducible refine T3.ss1 ?_; refine T3.sIf ?_; refine T3.isCmp ?_ rfl; refine T3.calln ?_ rfl); refine T3.nB (by assumption) (by kernel_rfl) (by boot_by_name) ?_; (with_reducible refine T3.cwB ?_; refine T3.ar1 ?_); refine T3.nL (by kernel_rfl) rfl ?_; (with_reducible refine T3.ar0 ?_); refine T3.cOrd ?_; intro _; refine T3.nG (by assumption) (by kernel_rfl) rfl ?_; (with_reducible refine T3.iGt ?_; refine T3.truB ?_)
    refine no (by simp; omega) ?_
    (with_reducible refine T3.ss0 ?_; refine Nx.nx ?_; refine T3.ss0 ?_)
    exact i1x2 _ rfl (by repeat (first | exact Has.nil | refine Has.cons rfl ?_))
  · rintro P3 _ l3 hqa; refine e1x2 hqa ?_; clear hqa; rintro m hra hm; subst hra
    refine T3.forget hm ?_
    (with_reducible refine T3.ss0 ?_; refine Nx.nx ?_; refine T3.ss1 ?_; refine T3.sRet ?_; refine T3.calln ?_ rfl); refine T3.nG (by assumption) (by kernel_rfl) rfl ?_; refine T3.cw0 (by assumption) rfl ?_; (with_reducible refine T3.ar1 ?_)
    refine T3.eLC (cl := []) hd.no (fun _ => rfl) rfl (by kernel_rfl) rfl (by kernel_rfl) rfl ?_
    refine T3.nL (by kernel_rfl) rfl ?_
    refine ⟨2, _, fun i y P' => ∃ ch, [ca, cb][i]? = some ch ∧ Node P' y (.chr ch), ⟨ItK.str (ws := [ca, cb]) (by simp; omega), lit rfl, ?_, ?_, ?_⟩⟩
    · rintro i y P4 P5 l hqa; refine e1x2 hqa ?_; clear hqa; rintro ch h hn
      exact i1x2 ch h (hn.le l)
    · rintro C i v P4 l4 hi hqa; refine e2x2 hqa ?_; clear hqa; rintro ch tk hch hra; subst hra
      have hle : ch ≤ 127 := by
        rcases i with _ | _ | i
        · obtain rfl : ca = ch := by simpa using hch
          exact ha.2.2.2
        · obtain rfl : cb = ch := by simpa using hch
          exact hb.2.2.2
        · omega
      (with_reducible refine T3.calln ?_ rfl); refine T3.nG (by assumption) (by kernel_rfl) rfl ?_; refine T3.cwC (by assumption) rfl ?_; (with_reducible refine T3.ar1 ?_); refine T3.callm ?_ rfl rfl rfl (lit rfl); refine T3.nG (by assumption) (by kernel_rfl) rfl ?_; refine T3.mSt (by assumption) rfl ?_; refine T3.cw0 (by assumption) rfl ?_; (with_reducible refine T3.ar1 ?_); refine T3.nL (by kernel_rfl) rfl ?_; (with_reducible refine T3.ar0 ?_)
      refine T3.fr0 (of_ kf (by exact Room.le (by assumption) (lit rfl)) hle) ?_ (fun _ _ _ q => q.2)
      rintro _ P5 l5 hqa; obtain ⟨hqb, _⟩ := hqa; refine e1x2 hqb ?_; clear hqb; rintro s hra hs; subst hra
      (with_reducible refine T3.ar0 ?_)
      refine T3.fr0 (chars_new kf (by exact Room.le (by assumption) (lit rfl)) hs) ?_ (fun _ _ _ q => q.2)
      rintro _ P6 l6 ⟨hn, _⟩
      exact ⟨rfl, i1x2 ch hch hn⟩
    · intro Dl ys P4 l4 hl hF
      obtain ⟨y0, y1, rfl⟩ : ∃ y0 y1, ys = [y0, y1] := by
        match ys, hl with
        | [y0, y1], _ => exact ⟨y0, y1, rfl⟩
      refine e1x2 (hF 0 y0 rfl) ?_; rintro c0 e0 n0
      refine e1x2 (hF 1 y1 rfl) ?_; rintro c1 e1 n1
      obtain rfl : ca = c0 := by simpa using e0
      obtain rfl : cb = c1 := by simpa using e1
      show T3 c _ _ _ _ _ _
      (with_reducible refine T3.ar0 ?_)
      refine T3.freezeLi (pre := [_]) fun P5 l5 hb => ?_
      simp only [List.cons_append, List.nil_append, List.append_nil]
      refine T3.fr0 (cat_all_ kf (by exact Room.le (by assumption) (lit rfl)) hb ((Nodes.cons n0 (.cons n1 .nil)).le l5) (by simp)) ?_ (fun _ _ _ q => q.2)
      rintro _ P6 l6 ⟨hn, _⟩
      (with_reducible refine Nx.ret ?_)
      exact Bk.mk ⟨hn, _, rfl⟩
theorem rdefined_ (kf : KF c) (hr : Room A 8) (hz : Fits T) (hx : P x = some (instObj 222 cd)) (hR : P R = some (instObj 907 rd)) (hD : DefOk c P dv D δ) {w : List Nat} (hw : D.lookup w = some t) (n : Nat) {c0 : Nat} (h0 : T[p]? = some c0) (hf : c0 ∉ FIGS) (hin : ∀ i, i < n → ∃ ch, T[p + i]? = some ch ∧ ch ∈ NAMES) (hn : 0 < n) (hend : T[p + n]? = some 125) (hwt : (T.drop p).take n = w) {tb : Tok} {q : Int} :
    T3 c A (PySem.call (.ref 876) [.ref R, .int q tb]) P ((rd, IsF (rF x dv pat d td)) :: (cd, IsF (cF T t1 p t2)) :: δ) (fun v P' σ' => Node P' v t ∧ ∃ t2', σ' = (rd, IsF (rF x dv pat d td)) :: (cd, IsF (cF T t1 (p + n + 1 : Nat) t2')) :: δ) NoE := by
  let Q1 : KO Value := fun v P' σ' => Node P' v t ∧ ∃ t2', σ' = (rd, IsF (rF x dv pat d td)) :: (cd, IsF (cF T t1 (p + n + 1 : Nat) t2')) :: δ
  show T3 _ _ _ _ _ Q1 _
  rcases hD with ⟨_, rfl, _⟩ | ⟨kd, fs, rfl, hkd, rfl, hfs⟩
  · simp at hw
  refine e1x2 (hfs w t hw) ?_; rintro nv hv hnv
  refine T3.d0 kf.f_RegexReader_defined [("begun", .int q tb), ("self", .ref R)] hr.dep (fun _ _ _ _ _ _ => by kernel_rfl) (by kernel_rfl) fun L cdv => ?_
  refine T3.ss1 ?_
  refine T3.sAsg ?_ rfl rfl rfl; refine T3.callm ?_ rfl rfl rfl (lit rfl); (with_reducible refine T3.attr ?_ rfl); refine T3.nL (by kernel_rfl) rfl ?_; refine T3.gM (by assumption) (by with_reducible assumption) (List.mem_cons_of_mem _ List.mem_cons_self) (by first | assumption | kernel_rfl) (by kernel_rfl) rfl (by first | rfl | assumption) ?_; refine T3.mFM (by assumption) (by with_reducible assumption) (List.mem_cons_of_mem _ (List.mem_cons_of_mem _ List.mem_cons_self)) (by first | assumption | kernel_rfl) rfl (by kernel_rfl) rfl ?_; refine T3.cw10 (by assumption) rfl ?_
  refine T3.frAt (pre := [_, _]) (name_ kf (by exact Room.le (Room.deeper (by assumption)) (lit rfl)) hz (by with_reducible assumption) n h0 hf hin hn hend (by decide)) ?_
  rintro _ P1 _ l1 hqa; obtain ⟨⟨t', rfl⟩, t'', rfl⟩ := hqa
  simp only [List.cons_append, List.nil_append, List.append_nil]
  rw [hwt]
  (with_reducible refine T3.aName ?_); refine T3.st rfl ?_ (by kernel_rfl); (with_reducible refine Nx.nx ?_; refine T3.ss1 ?_; refine T3.sIf ?_; refine T3.isBool ?_; refine T3.or1 ?_; refine T3.isNot ?_); refine T3.isT rfl ?_; refine T3.callm ?_ rfl rfl rfl (lit rfl); (with_reducible refine T3.attr ?_ rfl); refine T3.nL (by kernel_rfl) rfl ?_; refine T3.gM (by assumption) (by (with_reducible (apply Le.ap); (focus assumption); assumption)) (List.mem_cons_of_mem _ List.mem_cons_self) (by first | assumption | kernel_rfl) (by kernel_rfl) rfl (by first | rfl | assumption) ?_; refine T3.mFM (by assumption) (by (with_reducible (apply Le.ap); (focus assumption); assumption)) (List.mem_cons_of_mem _ (List.mem_cons_of_mem _ List.mem_cons_self)) (by first | assumption | kernel_rfl) rfl (by kernel_rfl) rfl ?_; refine T3.cw1 (by assumption) rfl ?_; (with_reducible refine T3.ar1 ?_); refine T3.cstr ?_; intro _; (with_reducible refine T3.ar0 ?_)
  rw [show Str.ofString "}" = S [125] from rfl]
  refine T3.frAt (pre := [_, _]) (skip_ (w := [125]) kf (by exact Room.le (Room.deeper (by assumption)) (lit rfl)) hz (by (with_reducible (apply Le.ap); (focus assumption); assumption)) (by decide)) ?_
  rintro _ P2 _ l2 hqa; obtain ⟨rfl, t3, rfl⟩ := hqa
  simp only [List.cons_append, List.nil_append, List.append_nil]
  rw [atW_one, sg_some hend]
  (with_reducible refine T3.truB ?_; refine no rfl ?_; refine T3.or1 ?_; refine T3.isCmp ?_ rfl; refine T3.attr ?_ rfl); refine T3.nL (by kernel_rfl) rfl ?_; refine T3.gM (by assumption) (by (with_reducible (apply Le.ap); (focus assumption); (apply Le.ap); (focus assumption); assumption)) (List.mem_cons_of_mem _ List.mem_cons_self) (by first | assumption | kernel_rfl) (by kernel_rfl) rfl (by first | rfl | assumption) ?_; (with_reducible refine T3.cnone ?_; refine T3.isRN ?_; refine T3.truB ?_; refine no rfl ?_; refine T3.or1 ?_; refine T3.isCmp ?_ rfl); refine T3.nL (by kernel_rfl) rfl ?_; (with_reducible refine T3.attr ?_ rfl); refine T3.nL (by kernel_rfl) rfl ?_; refine T3.gM (by assumption) (by (with_reducible (apply Le.ap); (focus assumption); (apply Le.ap); (focus assumption); assumption)) (List.mem_cons_of_mem _ List.mem_cons_self) (by first | assumption | kernel_rfl) (by kernel_rfl) rfl (by first | rfl | assumption) ?_
  refine T3.dNotIn (fs := fs) (by exact (List.mem_cons_of_mem _ (List.mem_cons_of_mem _ (List.mem_cons_of_mem _ List.mem_cons_self)))) hkd ?_
  rw [hv]
  (with_reducible refine T3.truB ?_; refine no rfl ?_; refine T3.or0 ?_; refine no rfl ?_; refine T3.ss0 ?_; refine Nx.nx ?_; refine T3.ss1 ?_; refine T3.sRet ?_); refine T3.subG ?_ (fun _ _ => rfl); (with_reducible refine T3.attr ?_ rfl); refine T3.nL (by kernel_rfl) rfl ?_; refine T3.gM (by assumption) (by (with_reducible (apply Le.ap); (focus assumption); (apply Le.ap); (focus assumption); assumption)) (List.mem_cons_of_mem _ List.mem_cons_self) (by first | assumption | kernel_rfl) (by kernel_rfl) rfl (by first | rfl | assumption) ?_; refine T3.nL (by kernel_rfl) rfl ?_; refine T3.gDi (List.mem_cons_of_mem _ (List.mem_cons_of_mem _ (List.mem_cons_of_mem _ List.mem_cons_self))) ?_
  refine T3.dItem (fs := fs) (by exact (List.mem_cons_of_mem _ (List.mem_cons_of_mem _ (List.mem_cons_of_mem _ List.mem_cons_self)))) hv ?_
  (with_reducible refine Nx.ret ?_)
  exact Bk.mk ⟨(hnv.le l1).le l2, _, rfl⟩
end
/-! the grammar of the texts, and its reading -/
inductive Kd | sg | row (acc : List Tr) | cho (t : Tr)
noncomputable def plainC (ch : Nat) : Prop := ch ≤ 127 ∧ ch ∉ [40, 41, 91, 34, 123, 46, 92, 42, 43, 63, 93, 125, 94, 36, 47, 32, 9, 10, 124]
noncomputable def wordOk (w : List Nat) : Prop := w ≠ [] ∧ (∀ ch ∈ w, ch ∈ NAMES) ∧ ∀ ch, w.head? = some ch → ch ∉ FIGS
noncomputable def quotC (ch : Nat) : Prop := ch ≠ 34 ∧ ch ≠ 92 ∧ ch ≠ 10 ∧ ch ≤ 127
inductive Rd (D : List (List Nat × Tr)) : Nat → Kd → List Nat → Tr → Prop
  | chr {d ch} (h : plainC ch) : Rd D d .sg [ch] (.chr ch)
  | quo {d ca cb} (ha : quotC ca) (hb : quotC cb) : Rd D d .sg [34, ca, cb, 34] (.cat (.chr ca) (.chr cb))
  | dfn {d w t} (h : D.lookup w = some t) (hw : wordOk w) : Rd D d .sg (123 :: (w ++ [125])) t
  | par {d l1 l2 t1 t2} (hd : d < 20) (h1 : Rd D (d + 1) (.row []) l1 t1) (h2 : Rd D (d + 1) (.cho t1) l2 t2) : Rd D d .sg (40 :: (l1 ++ (l2 ++ [41]))) t2
  | rowN {d acc} : Rd D d (.row acc) [] (catAll acc)
  | rowC {d acc l1 t1 ks l2 t2} (h1 : Rd D d .sg l1 t1) (hk : ks.length ≤ 20) (hn : l2.head? ≠ some 123) (h2 : Rd D d (.row (acc ++ [loops ks t1])) l2 t2) : Rd D d (.row acc) (l1 ++ (ks.map LK.sign ++ l2)) t2
  | choN {d t} : Rd D d (.cho t) [] t
  | choC {d t l1 t1 l2 t2} (h1 : Rd D d (.row []) l1 t1) (h2 : Rd D d (.cho (.alt t t1)) l2 t2) : Rd D d (.cho t) (124 :: (l1 ++ l2)) t2
theorem le'_ {P P' : Vw} {a : Addr} {o : Obj} (h : P a = some o) (l : Le P P') : P' a = some o := l _ _ h
/-- a text stands at a place -/
noncomputable def At (T : List Nat) (p : Nat) (l : List Nat) : Prop := ∃ r, T.drop p = l ++ r
theorem At.left {T : List Nat} {p : Nat} {a b : List Nat} (h : At T p (a ++ b)) : At T p a := let ⟨r, e⟩ := h; ⟨b ++ r, by rw [e, List.append_assoc]⟩
theorem At.right {T : List Nat} {p : Nat} {a b : List Nat} (h : At T p (a ++ b)) : At T (p + a.length) b := by
  obtain ⟨r, e⟩ := h
  exact ⟨r, by rw [← List.drop_drop, e, List.append_assoc, List.drop_left]⟩
theorem At.get {T : List Nat} {p : Nat} {l : List Nat} (h : At T p l) {i ch : Nat} (hi : l[i]? = some ch) : T[p + i]? = some ch := by
  obtain ⟨r, e⟩ := h
  rw [← List.getElem?_drop, e, List.getElem?_append_left (List.getElem?_eq_some_iff.mp hi).1]
  exact hi
theorem At.len {T : List Nat} {p : Nat} {l : List Nat} (h : At T p l) (hp : l ≠ []) : p + l.length ≤ T.length := by
  obtain ⟨r, e⟩ := h
  have := congrArg List.length e
  rw [List.length_drop, List.length_append] at this
  have : 0 < l.length := List.length_pos_iff.mpr hp
  omega
theorem ne_in {ch b : Nat} {l : List Nat} (h : ch ∉ l) (d : l.contains b = true) : ch ≠ b := fun e => h (e ▸ List.contains_iff_mem.mp d)
theorem Rd.sgHead {D : List (List Nat × Tr)} {d : Nat} {l : List Nat} {t : Tr} (h : Rd D d .sg l t) : ∃ ch r, l = ch :: r ∧ ch ∉ [124, 41, 32, 9, 10, 47, 36, 42, 43, 63] := by
  cases h with
  | chr h => exact ⟨_, _, rfl, fun hm => h.2 ((show ∀ x ∈ ([124, 41, 32, 9, 10, 47, 36, 42, 43, 63] : List Nat), x ∈ _ from by decide) _ hm)⟩
  | quo ha hb => exact ⟨_, _, rfl, by decide⟩
  | dfn h hw => exact ⟨_, _, rfl, by decide⟩
  | par hd h1 h2 => exact ⟨_, _, rfl, by decide⟩
theorem Rd.rowHead {D : List (List Nat × Tr)} {d : Nat} {l : List Nat} {t : Tr} {acc : List Tr} (h : Rd D d (.row acc) l t) : l = [] ∨ ∃ ch r, l = ch :: r ∧ ch ∉ [124, 41, 32, 9, 10, 47, 36, 42, 43, 63] := by
  cases h with
  | rowN => exact .inl rfl
  | rowC h1 hk hn h2 =>
    refine e2x2 (h1.sgHead) ?_; rintro ch r hra hc; subst hra
    exact .inr ⟨ch, _, rfl, hc⟩
noncomputable abbrev rs (x R rd cd : Addr) (dv : Value) (pat : Bool) (T : List Nat) (t1 : Tok) (δ : St) (d : Nat) (td : Tok) (p : Nat) (t2 : Tok) : St := (rd, IsF (rF x dv pat d td)) :: (cd, IsF (cF T t1 p t2)) :: δ
section
variable {c : Cx} {δ : St} {E : Value → Vw → St → Prop} {x cd R rd : Addr} {pat : Bool} {T : List Nat} {t1 : Tok} {dv : Value} {D : List (List Nat × Tr)}
/-- a single part of n signs at most -/
noncomputable def SGn (c : Cx) (x R rd cd : Addr) (dv : Value) (pat : Bool) (T : List Nat) (t1 : Tok) (δ : St) (D : List (List Nat × Tr)) (n : Nat) : Prop :=
  ∀ d l t, Rd D d .sg l t → l.length ≤ n → d ≤ 20 → ∀ {A : Around} {P : Vw} {p : Nat} {t2 td : Tok}, Room A (3 * (20 - d) + 20) → P x = some (instObj 222 cd) → P R = some (instObj 907 rd) → DefOk c P dv D δ → At T p l →
    T3 c A (PySem.call (.ref 857) [.ref R]) P (rs x R rd cd dv pat T t1 δ d td p t2) (fun v P' σ' => Node P' v t ∧ ∃ td' t2', σ' = rs x R rd cd dv pat T t1 δ d td' (p + l.length) t2') NoE
theorem stop_no {p : Nat} (h : stopAt pat T p) : sg T p ≠ [42] ∧ sg T p ≠ [43] ∧ sg T p ≠ [63] ∧ sg T p ≠ [123] := by
  rcases h with h | h | h | ⟨_, h⟩ <;> rw [h] <;> decide
theorem T3.frMd {α : Type} {A : Around} {P : Vw} {t : Sem α} {pre σ₁ post : St} {Q₁ Q : α → Vw → St → Prop} (h : T3 c A t P σ₁ Q₁ NoE) (k : ∀ a P' σ', Le P P' → Q₁ a P' σ' → Q a P' (pre ++ (σ' ++ post))) : T3 c A t P (pre ++ (σ₁ ++ post)) Q E :=
  T3.frTl (T3.frame (σ₁ := σ₁) (σ₂ := post) (Q := fun a P' σ' => ∃ σ'', σ' = σ'' ++ post ∧ Q₁ a P' σ'') (List.Perm.refl _) h (fun σ' => σ' ++ post) (fun σ' => List.Perm.refl _) (fun a P' σ' _ q => ⟨σ', rfl, q⟩) fun _ _ _ _ z => z) fun a P' σ' l ⟨σ'', e, q⟩ => e ▸ k a P' σ'' l q
theorem branch_ (kf : KF c) (hz : Fits T) {n : Nat} (S : SGn c x R rd cd dv pat T t1 δ D n) {d : Nat} {l : List Nat} {t : Tr} (h : Rd D d (.row []) l t) (hl : l.length ≤ n) (hdd : d ≤ 20) {A : Around} {P : Vw} {p : Nat} {t2 td : Tok} (hr : Room A (3 * (20 - d) + 21)) (hx : P x = some (instObj 222 cd)) (hR : P R = some (instObj 907 rd))
    (hD : DefOk c P dv D δ) (ha : At T p l) (hst : stopAt pat T (p + l.length)) :
    T3 c A (PySem.call (.ref 829) [.ref R]) P (rs x R rd cd dv pat T t1 δ d td p t2) (fun v P' σ' => Node P' v t ∧ ∃ td' t2', σ' = rs x R rd cd dv pat T t1 δ d td' (p + l.length) t2') NoE := by
  let Q1 : KO Value := fun v P' σ' => Node P' v t ∧ ∃ td' t2', σ' = rs x R rd cd dv pat T t1 δ d td' (p + l.length) t2'
  show T3 _ _ _ _ _ Q1 _
  refine T3.d0 kf.f_RegexReader_branch [("self", .ref R)] hr.dep (fun _ _ _ _ _ _ => by kernel_rfl) (by kernel_rfl) fun L cdv => ?_
  have hd : Room (A.deeper (mkE (fdS (clsS 54 5)) (Str.ofString "RegexReader.branch") L 829 cdv)) (3 * (20 - d) + 20) := hr.deeper
  refine T3.ss1 ?_
  refine T3.sAsg ?_ rfl rfl rfl; (with_reducible refine T3.lst ?_ rfl; refine T3.ar0 ?_); refine T3.newLi (lit rfl) ?_; intro _ _; (with_reducible refine T3.aName ?_); refine T3.st rfl ?_ (by kernel_rfl); (with_reducible refine Nx.nx ?_; refine T3.ss1 ?_; refine T3.sWhile ?_)
  rename_i row _
  let I1 : List Nat → Vw → St → Prop := fun l2 P' σ' => ∃ acc m xs q td' t2', σ' = (L, NsP m) :: (row, IsLi xs) :: rs x R rd cd dv pat T t1 δ d td' q t2' ∧ Has m [(Str.ofString "row", .ref row), (Str.ofString "self", .ref R)] ∧ Nodes P' xs acc ∧ Rd D d (.row acc) l2 t ∧ At T q l2 ∧ q + l2.length = p + l.length ∧ xs.length + l2.length ≤ 100000 ∧ l2.length ≤ n
  refine C3.whileM (fun l2 : List Nat => l2.length) I1 ?_ l
    ⟨[], _, [], p, td, t2, rfl, by repeat (first | exact Has.nil | refine Has.cons rfl ?_), .nil, h, ha, rfl, ?_, hl⟩
  · rintro l2 P1 _ l1 hqa; refine e6x8 hqa ?_; clear hqa; rintro acc m xs q td' t2' hra hm hns hrd hat hq hsz hln; subst hra
    refine T3.forget hm ?_
    (with_reducible refine T3.isNot ?_); refine T3.isT rfl ?_; refine T3.callm ?_ rfl rfl rfl (lit rfl); refine T3.nL (by kernel_rfl) rfl ?_; refine T3.mFM (by assumption) (by (with_reducible (apply Le.ap); (focus assumption); assumption)) (List.mem_cons_of_mem _ (List.mem_cons_of_mem _ List.mem_cons_self)) (by first | assumption | kernel_rfl) rfl (by kernel_rfl) rfl ?_; refine T3.cw10 (by assumption) rfl ?_
    cases hrd with
    | rowN =>
      have hq' : q = p + l.length := hq
      rw [← hq'] at hst
      refine T3.frMd (pre := [_, _]) (σ₁ := [_, _]) (post := δ) (is_stop_t kf (hd.le (lit rfl)) hz (le'_ hx l1) (le'_ hR l1) hst) ?_
      rintro _ P2 _ l3 ⟨rfl, rfl⟩
      simp only [List.cons_append, List.nil_append, List.append_nil]
      (with_reducible refine T3.truB ?_; refine no rfl ?_; refine T3.ss0 ?_; refine Nx.nx ?_; refine T3.ss1 ?_; refine T3.sRet ?_; refine T3.calln ?_ rfl); refine T3.nG (by assumption) (by kernel_rfl) rfl ?_; refine T3.cw0 (by assumption) rfl ?_; (with_reducible refine T3.ar1 ?_); refine T3.nL (by kernel_rfl) rfl ?_; (with_reducible refine T3.ar0 ?_)
      refine T3.freezeLi (pre := [_]) fun P3 l4 hb => ?_
      simp only [List.cons_append, List.nil_append, List.append_nil]
      refine T3.fr0 (cat_all_ kf (hd.le (lit rfl)) hb ((hns.le l3).le l4) (by omega)) ?_ (fun _ _ _ q => q.2)
      rintro _ P4 l5 ⟨hn, _⟩
      (with_reducible refine Nx.ret ?_)
      exact Bk.mk ⟨hn, i2x1 td' t2' (by rw [hq'])⟩
    | @rowC _ _ la ta ks lb _ h1 hk hn h2 =>
      refine e2x2 (h1.sgHead) ?_; rintro ch r hla hch
      have hc0 : T[q]? = some ch := hat.get (i := 0) (by rw [hla]; rfl)
      have hch7 : ch ∉ [124, 41, 32, 9, 10, 47, 36] := fun hm => hch ((show ∀ x ∈ ([124, 41, 32, 9, 10, 47, 36] : List Nat), x ∈ _ from by decide) _ hm)
      have hlen : la.length = r.length + 1 := by rw [hla]; rfl
      have hq2 : q + (la.length + (ks.length + lb.length)) = p + l.length := by simpa using hq
      have hln2 : la.length + (ks.length + lb.length) ≤ n := by simpa using hln
      have hsz2 : xs.length + (la.length + (ks.length + lb.length)) ≤ 100000 := by simpa using hsz
      have hat2 : At T (q + la.length) (ks.map LK.sign ++ lb) := hat.right
      have hat3 : At T (q + la.length + ks.length) lb := by have := hat2.right; rwa [List.length_map] at this
      refine T3.frMd (pre := [_, _]) (σ₁ := [_, _]) (post := δ) (is_stop_f kf (hd.le (lit rfl)) hz (le'_ hx l1) (le'_ hR l1) hc0 hch7) ?_
      rintro _ P2 _ l3 ⟨rfl, rfl⟩
      simp only [List.cons_append, List.nil_append, List.append_nil]
      (with_reducible refine T3.truB ?_; refine yes rfl ?_; refine T3.ss1 ?_); refine T3.sExpr ?_ (by first | assumption | kernel_rfl) rfl; refine T3.callm ?_ rfl rfl rfl (lit rfl); refine T3.nL (by kernel_rfl) rfl ?_; refine T3.mLi F.slot_list_append F.type_list_append (List.mem_cons_of_mem _ List.mem_cons_self) ?_; (with_reducible refine T3.cwB1 ?_; refine T3.ar1 ?_); refine T3.callm ?_ rfl rfl rfl (lit rfl); refine T3.nL (by kernel_rfl) rfl ?_; refine T3.mFM (by assumption) (by (with_reducible (apply Le.ap); (focus assumption); (apply Le.ap); (focus assumption); assumption)) (List.mem_cons_of_mem _ (List.mem_cons_of_mem _ List.mem_cons_self)) (by first | assumption | kernel_rfl) rfl (by kernel_rfl) rfl ?_; refine T3.cw1 (by assumption) rfl ?_; (with_reducible refine T3.ar1 ?_); refine T3.callm ?_ rfl rfl rfl (lit rfl); refine T3.nL (by kernel_rfl) rfl ?_; refine T3.mFM (by assumption) (by (with_reducible (apply Le.ap); (focus assumption); (apply Le.ap); (focus assumption); assumption)) (List.mem_cons_of_mem _ (List.mem_cons_of_mem _ List.mem_cons_self)) (by first | assumption | kernel_rfl) rfl (by kernel_rfl) rfl ?_; refine T3.cw10 (by assumption) rfl ?_
      refine T3.frTl (pre := [_, _]) (S d la ta h1 (by omega) hdd hd (le'_ (le'_ hx l1) l3) (le'_ (le'_ hR l1) l3) ((hD.le l1).le l3) hat.left) ?_
      rintro v P3 _ l4 hqa; obtain ⟨hv, hqb⟩ := hqa; refine e2x1 hqb ?_; clear hqb; rintro td3 t3 hra; subst hra
      obtain ⟨nv, rfl⟩ := hv.ref
      simp only [List.cons_append, List.nil_append, List.append_nil]
      (with_reducible refine T3.ar0 ?_)
      refine T3.frMd (pre := [_, _]) (σ₁ := [_, _]) (post := δ) (looped_ kf (hd.le (lit rfl)) hz (le'_ (le'_ (le'_ hx l1) l3) l4) (le'_ (le'_ (le'_ hR l1) l3) l4) hv ks hk ?_ ?_) ?_
      · intro i k hki
        exact hat2.left.get (by rw [List.getElem?_map, hki]; rfl)
      · rcases h2.rowHead with he | ⟨c2, r2, he, hc2⟩
        · have : q + la.length + ks.length = p + l.length := by rw [he] at hq2; simp at hq2; omega
          rw [this]
          exact stop_no hst
        · have hg : T[q + la.length + ks.length]? = some c2 := hat3.get (i := 0) (by rw [he]; rfl)
          rw [sg_some hg]
          rw [he] at hn
          simp only [List.mem_cons, List.not_mem_nil, or_false, not_or] at hc2
          refine ⟨fun e => ?_, fun e => ?_, fun e => ?_, fun e => hn ?_⟩ <;> obtain rfl : c2 = _ := by simpa using e
          · omega
          · omega
          · omega
          · rfl
      rintro v P4 _ l5 hqa; obtain ⟨hv2, t4, rfl⟩ := hqa
      simp only [List.cons_append, List.nil_append, List.append_nil]
      (with_reducible refine T3.ar0 ?_)
      refine T3.lAppend (pre := [_]) (by rw [sizeLine_eq]; omega) ?_
      simp only [List.cons_append, List.nil_append, List.append_nil]
      (with_reducible refine Nx.nx ?_; refine T3.ss0 ?_)
      refine ⟨lb, by simp; omega, i6x8 _ _ _ (q + la.length + ks.length) td3 t4 rfl (by repeat (first | exact Has.nil | refine Has.cons rfl ?_)) ((((hns.le l3).le l4).le l5).app (.cons hv2 .nil)) h2 hat3 (by omega) (by simp; omega) (by omega)⟩
  · by_cases hne : l = []
    · subst hne; simp
    · have := ha.len hne
      simp; omega
end
section
variable {c : Cx} {δ : St} {E : Value → Vw → St → Prop} {x cd R rd : Addr} {pat : Bool} {T : List Nat} {t1 : Tok} {dv : Value} {D : List (List Nat × Tr)}
noncomputable def stopC (pat : Bool) (T : List Nat) (p : Nat) : Prop := sg T p = [] ∨ sg T p = [41] ∨ (pat = true ∧ sg T p = [32])
theorem cho_stop {d : Nat} {t0 t : Tr} {l2 : List Nat} {q e : Nat} (h : Rd D d (.cho t0) l2 t) (ha : At T q l2) (he : q + l2.length = e) (hs : stopC pat T e) : stopAt pat T q := by
  cases h with
  | choN =>
    obtain rfl : q = e := he
    rcases hs with h | h | h
    · exact .inl h
    · exact .inr (.inr (.inl h))
    · exact .inr (.inr (.inr h))
  | choC h1 h2 => exact .inr (.inl (sg_some (ha.get (i := 0) rfl)))
theorem choice_ (kf : KF c) (hz : Fits T) {n : Nat} (S1 : SGn c x R rd cd dv pat T t1 δ D n) {d : Nat} {l1 l2 : List Nat} {ta t : Tr} (h1 : Rd D d (.row []) l1 ta) (h2 : Rd D d (.cho ta) l2 t) (hl : l1.length + l2.length ≤ n) (hdd : d ≤ 20) {A : Around} {P : Vw} {p : Nat} {t2 td : Tok} (hr : Room A (3 * (20 - d) + 22)) (hx : P x = some (instObj 222 cd)) (hR : P R = some (instObj 907 rd))
    (hD : DefOk c P dv D δ) (ha : At T p (l1 ++ l2)) (hst : stopC pat T (p + (l1.length + l2.length))) :
    T3 c A (PySem.call (.ref 822) [.ref R]) P (rs x R rd cd dv pat T t1 δ d td p t2) (fun v P' σ' => Node P' v t ∧ ∃ td' t2', σ' = rs x R rd cd dv pat T t1 δ d td' (p + (l1.length + l2.length)) t2') NoE := by
  let Q1 : KO Value := fun v P' σ' => Node P' v t ∧ ∃ td' t2', σ' = rs x R rd cd dv pat T t1 δ d td' (p + (l1.length + l2.length)) t2'
  show T3 _ _ _ _ _ Q1 _
  refine T3.d0 kf.f_RegexReader_choice [("self", .ref R)] hr.dep (fun _ _ _ _ _ _ => by kernel_rfl) (by kernel_rfl) fun L cdv => ?_
  have hd : Room (A.deeper (mkE (fdS (clsS 54 4)) (Str.ofString "RegexReader.choice") L 822 cdv)) (3 * (20 - d) + 21) := hr.deeper
  refine T3.ss1 ?_
  refine T3.sAsg ?_ rfl rfl rfl; refine T3.callm ?_ rfl rfl rfl (lit rfl); refine T3.nL (by kernel_rfl) rfl ?_; refine T3.mFM (by assumption) (by with_reducible assumption) (List.mem_cons_of_mem _ List.mem_cons_self) (by first | assumption | kernel_rfl) rfl (by kernel_rfl) rfl ?_; refine T3.cw10 (by assumption) rfl ?_
  refine T3.frTl (pre := [_]) (branch_ kf hz S1 h1 (by omega) hdd hd hx hR hD ha.left (cho_stop h2 ha.right (by omega) hst)) ?_
  rintro v P1 _ q1 hqa; obtain ⟨hv, hqb⟩ := hqa; refine e2x1 hqb ?_; clear hqb; rintro td1 t3 hra; subst hra
  obtain ⟨nv, rfl⟩ := hv.ref
  simp only [List.cons_append, List.nil_append, List.append_nil]
  (with_reducible refine T3.aName ?_); refine T3.st rfl ?_ (by kernel_rfl); (with_reducible refine Nx.nx ?_; refine T3.ss1 ?_; refine T3.sWhile ?_)
  let I1 : List Nat → Vw → St → Prop := fun lb P' σ' => ∃ t0 m nv q td' t2', σ' = (L, NsP m) :: rs x R rd cd dv pat T t1 δ d td' q t2' ∧ Has m [(Str.ofString "node", .ref nv), (Str.ofString "self", .ref R)] ∧ Node P' (.ref nv) t0 ∧ Rd D d (.cho t0) lb t ∧ At T q lb ∧ q + lb.length = p + (l1.length + l2.length) ∧ lb.length ≤ n
  refine C3.whileM (fun l2 : List Nat => l2.length) I1 ?_ l2
    ⟨ta, _, nv, p + l1.length, td1, t3, rfl, by repeat (first | exact Has.nil | refine Has.cons rfl ?_), hv, h2, ha.right, by omega, by omega⟩
  rintro lb P2 _ q2 hqa; refine e6x7 hqa ?_; clear hqa; rintro t0 m nv q td' t2' hra hm hn hrd hat hq hln; subst hra
  refine T3.forget hm ?_
  refine T3.isT rfl ?_; refine T3.callm ?_ rfl rfl rfl (lit rfl); (with_reducible refine T3.attr ?_ rfl); refine T3.nL (by kernel_rfl) rfl ?_; refine T3.gM (by assumption) (by (with_reducible (apply Le.ap); (focus assumption); (apply Le.ap); (focus assumption); assumption)) (List.mem_cons_of_mem _ List.mem_cons_self) (by first | assumption | kernel_rfl) (by kernel_rfl) rfl (by first | rfl | assumption) ?_; refine T3.mFM (by assumption) (by (with_reducible (apply Le.ap); (focus assumption); (apply Le.ap); (focus assumption); assumption)) (List.mem_cons_of_mem _ (List.mem_cons_of_mem _ List.mem_cons_self)) (by first | assumption | kernel_rfl) rfl (by kernel_rfl) rfl ?_; refine T3.cw1 (by assumption) rfl ?_; (with_reducible refine T3.ar1 ?_); refine T3.cstr ?_; intro _; (with_reducible refine T3.ar0 ?_)
  rw [show Str.ofString "|" = S [124] from rfl]
  refine T3.frAt (pre := [_, _]) (skip_ (w := [124]) kf (hd.le (lit rfl)) hz (le'_ (le'_ hx q1) q2) (by decide)) ?_
  rintro _ P3 _ q3 hqa; obtain ⟨rfl, t4, rfl⟩ := hqa
  simp only [List.cons_append, List.nil_append, List.append_nil]
  rw [atW_one]
  (with_reducible refine T3.truB ?_)
  cases hrd with
  | choN =>
    have hq' : q = p + (l1.length + l2.length) := hq
    have hb : (sg T q == [124]) = false := by
      rw [hq']
      rcases hst with h | h | ⟨_, h⟩ <;> rw [h] <;> decide
    refine no hb ?_
    rw [hb, if_neg Bool.false_ne_true]
    (with_reducible refine T3.ss0 ?_; refine Nx.nx ?_; refine T3.ss1 ?_; refine T3.sRet ?_); refine T3.nL (by kernel_rfl) rfl ?_; (with_reducible refine Nx.ret ?_)
    exact Bk.mk ⟨hn.le q3, i2x1 td' t4 (by rw [hq'])⟩
  | @choC _ _ la tb lc _ g1 g2 =>
    have hb : sg T q = [124] := sg_some (hat.get (i := 0) rfl)
    have hat2 : At T (q + 1) (la ++ lc) := At.right (a := [124]) hat
    have hq2 : q + (la.length + lc.length + 1) = p + (l1.length + l2.length) := by simpa using hq
    have hln2 : la.length + lc.length + 1 ≤ n := by simpa using hln
    rw [hb]
    refine yes (by decide) ?_
    rw [if_pos (by decide)]
    (with_reducible refine T3.ss1 ?_); refine T3.sAsg ?_ rfl rfl rfl; (with_reducible refine T3.calln ?_ rfl); refine T3.nG (by assumption) (by kernel_rfl) rfl ?_; refine T3.cwC (by assumption) rfl ?_; (with_reducible refine T3.ar1 ?_); refine T3.nL (by kernel_rfl) rfl ?_; (with_reducible refine T3.ar1 ?_); refine T3.callm ?_ rfl rfl rfl (lit rfl); refine T3.nL (by kernel_rfl) rfl ?_; refine T3.mFM (by assumption) (by (with_reducible (apply Le.ap); (focus assumption); (apply Le.ap); (focus assumption); (apply Le.ap); (focus assumption); assumption)) (List.mem_cons_of_mem _ List.mem_cons_self) (by first | assumption | kernel_rfl) rfl (by kernel_rfl) rfl ?_; refine T3.cw10 (by assumption) rfl ?_
    refine T3.frTl (pre := [_]) (branch_ (p := q + 1) kf hz S1 g1 (by omega) hdd hd (le'_ (le'_ (le'_ hx q1) q2) q3) (le'_ (le'_ (le'_ hR q1) q2) q3) (((hD.le q1).le q2).le q3) hat2.left (cho_stop g2 hat2.right (by omega) hst)) ?_
    rintro v P4 _ q4 hqa; obtain ⟨hv4, hqb⟩ := hqa; refine e2x1 hqb ?_; clear hqb; rintro td4 t5 hra; subst hra
    obtain ⟨nb, rfl⟩ := hv4.ref
    simp only [List.cons_append, List.nil_append, List.append_nil]
    (with_reducible refine T3.ar0 ?_)
    refine T3.fr0 (alt_new kf (hd.le (lit rfl)) ((hn.le q3).le q4) hv4) ?_ (fun _ _ _ q => q.2)
    rintro _ P5 q5 ⟨hv5, _⟩
    obtain ⟨n5, rfl⟩ := hv5.ref
    (with_reducible refine T3.aName ?_); refine T3.st rfl ?_ (by kernel_rfl); (with_reducible refine Nx.nx ?_; refine T3.ss0 ?_)
    exact ⟨lc, by simp; omega, i6x7 _ _ n5 (q + 1 + la.length) td4 t5 rfl (by repeat (first | exact Has.nil | refine Has.cons rfl ?_)) hv5 g2 hat2.right (by omega) (by omega)⟩
theorem single_ (kf : KF c) (hz : Fits T) : ∀ n, SGn c x R rd cd dv pat T t1 δ D n := by
  intro n
  induction n with
  | zero =>
    intro d l t h hl
    refine e2x2 (h.sgHead) ?_; rintro ch r hra _; subst hra
    simp at hl
  | succ n ih =>
    intro d l t h hl hdd A P p t2 td hr hx hR hD ha
    refine T3.d0 kf.f_RegexReader_single [("self", .ref R)] hr.dep (fun _ _ _ _ _ _ => by kernel_rfl) (by kernel_rfl) fun L cdv => ?_
    have hd : Room (A.deeper (mkE (fdS (clsS 54 9)) (Str.ofString "RegexReader.single") L 857 cdv)) (3 * (20 - d) + 19) := hr.deeper
    refine e2x2 (h.sgHead) ?_; rintro c0 r0 hl0 _
    have hp0 : T[p]? = some c0 := ha.get (i := 0) (by rw [hl0]; rfl)
    refine T3.ss1 ?_
    refine T3.sAsg ?_ rfl rfl rfl; (with_reducible refine T3.attr ?_ rfl; refine T3.attr ?_ rfl); refine T3.nL (by kernel_rfl) rfl ?_; refine T3.gM (by assumption) (by with_reducible assumption) (List.mem_cons_of_mem _ List.mem_cons_self) (by first | assumption | kernel_rfl) (by kernel_rfl) rfl (by first | rfl | assumption) ?_; refine T3.gM (by assumption) (by with_reducible assumption) (List.mem_cons_of_mem _ (List.mem_cons_of_mem _ List.mem_cons_self)) (by first | assumption | kernel_rfl) (by kernel_rfl) rfl (by first | rfl | assumption) ?_; (with_reducible refine T3.aName ?_); refine T3.st rfl ?_ (by kernel_rfl); (with_reducible refine Nx.nx ?_; refine T3.ss1 ?_); refine T3.sAsg ?_ rfl rfl rfl; refine T3.callm ?_ rfl rfl rfl (lit rfl); (with_reducible refine T3.attr ?_ rfl); refine T3.nL (by kernel_rfl) rfl ?_; refine T3.gM (by assumption) (by with_reducible assumption) (List.mem_cons_of_mem _ List.mem_cons_self) (by first | assumption | kernel_rfl) (by kernel_rfl) rfl (by first | rfl | assumption) ?_; refine T3.mFM (by assumption) (by with_reducible assumption) (List.mem_cons_of_mem _ (List.mem_cons_of_mem _ List.mem_cons_self)) (by first | assumption | kernel_rfl) rfl (by kernel_rfl) rfl ?_; refine T3.cw10 (by assumption) rfl ?_
    refine T3.frAt (pre := [_, _]) (take_ kf (hd.le (lit rfl)) hz hx hp0) ?_
    rintro _ P1 _ q1 hqa; obtain ⟨⟨t3, rfl⟩, t4, rfl⟩ := hqa
    simp only [List.cons_append, List.nil_append, List.append_nil]
    (with_reducible refine T3.aName ?_); refine T3.st rfl ?_ (by kernel_rfl); (with_reducible refine Nx.nx ?_; refine T3.ss1 ?_; refine T3.sIf ?_; refine T3.isCmp ?_ rfl); refine T3.nL (by kernel_rfl) rfl ?_; refine T3.cstr ?_; intro _; (with_reducible refine T3.sEq ?_; refine T3.truB ?_)
    have hx1 := le'_ hx q1
    have hR1 := le'_ hR q1
    have hD1 := hD.le q1
    cases h with
    | @chr _ ch hc =>
      obtain rfl : ch = c0 := by simpa using congrArg List.head? hl0
      obtain ⟨hle, hno⟩ := hc
      refine no (ne_beq (b := 40) (ne_in hno rfl)) ?_
      (with_reducible refine T3.ss0 ?_; refine Nx.nx ?_; refine T3.ss1 ?_; refine T3.sIf ?_; refine T3.isCmp ?_ rfl); refine T3.nL (by kernel_rfl) rfl ?_; refine T3.cstr ?_; intro _; (with_reducible refine T3.sEq ?_; refine T3.truB ?_)
      refine no (ne_beq (b := 91) (ne_in hno rfl)) ?_
      (with_reducible refine T3.ss0 ?_; refine Nx.nx ?_; refine T3.ss1 ?_; refine T3.sIf ?_; refine T3.isCmp ?_ rfl); refine T3.nL (by kernel_rfl) rfl ?_; refine T3.cstr ?_; intro _; (with_reducible refine T3.sEq ?_; refine T3.truB ?_)
      refine no (ne_beq (b := 34) (ne_in hno rfl)) ?_
      (with_reducible refine T3.ss0 ?_; refine Nx.nx ?_; refine T3.ss1 ?_; refine T3.sIf ?_; refine T3.isCmp ?_ rfl); refine T3.nL (by kernel_rfl) rfl ?_; refine T3.cstr ?_; intro _; (with_reducible refine T3.sEq ?_; refine T3.truB ?_)
      refine no (ne_beq (b := 123) (ne_in hno rfl)) ?_
      (with_reducible refine T3.ss0 ?_; refine Nx.nx ?_; refine T3.ss1 ?_; refine T3.sIf ?_; refine T3.isCmp ?_ rfl); refine T3.nL (by kernel_rfl) rfl ?_; refine T3.cstr ?_; intro _; (with_reducible refine T3.sEq ?_; refine T3.truB ?_)
      refine no (ne_beq (b := 46) (ne_in hno rfl)) ?_
      (with_reducible refine T3.ss0 ?_; refine Nx.nx ?_; refine T3.ss1 ?_; refine T3.sIf ?_; refine T3.isCmp ?_ rfl); refine T3.nL (by kernel_rfl) rfl ?_; refine T3.nG (by assumption) (by kernel_rfl) rfl ?_; (with_reducible refine T3.sIn ?_; refine T3.truB ?_)
      refine no (by
        show Txt.contains (S [42, 43, 63, 93, 125, 94, 36, 47, 32, 9, 10]) (S [ch]) = false
        rw [S_contains]; simp only [List.contains_eq_mem, decide_eq_false_iff_not]
        exact fun hm => hno ((show ∀ x ∈ ([42, 43, 63, 93, 125, 94, 36, 47, 32, 9, 10] : List Nat), x ∈ _ from by decide) _ hm)) ?_
      (with_reducible refine T3.ss0 ?_; refine Nx.nx ?_; refine T3.ss1 ?_); refine T3.sAsg ?_ rfl rfl rfl; refine T3.callm ?_ rfl rfl rfl (lit rfl); refine T3.nL (by kernel_rfl) rfl ?_; refine T3.mFM (by assumption) (by with_reducible assumption) (List.mem_cons_of_mem _ List.mem_cons_self) (by first | assumption | kernel_rfl) rfl (by kernel_rfl) rfl ?_; refine T3.cw1 (by assumption) rfl ?_; (with_reducible refine T3.ar1 ?_); refine T3.nL (by kernel_rfl) rfl ?_; (with_reducible refine T3.ar1 ?_); refine T3.nL (by kernel_rfl) rfl ?_; (with_reducible refine T3.ar0 ?_)
      refine T3.fr0 (code_of_ kf (hd.le (lit rfl)) hle (by first | exact ne_in hno rfl | (simp only [List.mem_cons, List.not_mem_nil, or_false, not_or] at hno; omega))) ?_ (fun _ _ _ q => q.2)
      rintro _ P2 q2 ⟨⟨t5, rfl⟩, _⟩
      (with_reducible refine T3.aName ?_); refine T3.st rfl ?_ (by kernel_rfl); (with_reducible refine Nx.nx ?_; refine T3.ss1 ?_; refine T3.sRet ?_; refine T3.calln ?_ rfl); refine T3.nG (by assumption) (by kernel_rfl) rfl ?_; refine T3.cwC (by assumption) rfl ?_; (with_reducible refine T3.ar1 ?_); refine T3.callm ?_ rfl rfl rfl (lit rfl); refine T3.nG (by assumption) (by kernel_rfl) rfl ?_; refine T3.mSt (by assumption) rfl ?_; refine T3.cw0 (by assumption) rfl ?_; (with_reducible refine T3.ar1 ?_); refine T3.nL (by kernel_rfl) rfl ?_; (with_reducible refine T3.ar1 ?_); refine T3.nL (by kernel_rfl) rfl ?_; (with_reducible refine T3.ar0 ?_)
      refine T3.fr0 (span_ kf (hd.le (lit rfl)) hle) ?_ (fun _ _ _ q => q.2)
      rintro _ P3 q3 hqa; obtain ⟨hqb, _⟩ := hqa; refine e1x2 hqb ?_; clear hqb; rintro s hra hs; subst hra
      (with_reducible refine T3.ar0 ?_)
      refine T3.fr0 (chars_new kf (hd.le (lit rfl)) hs) ?_ (fun _ _ _ q => q.2)
      rintro _ P4 q4 ⟨hn, _⟩
      (with_reducible refine Nx.ret ?_)
      exact Bk.mk ⟨hn, i2x1 td t3 rfl⟩
    | @quo _ ca cb h1 h2 =>
      obtain rfl : 34 = c0 := by simpa using congrArg List.head? hl0
      refine no (ne_beq (a := 34) (b := 40) (by decide)) ?_
      (with_reducible refine T3.ss0 ?_; refine Nx.nx ?_; refine T3.ss1 ?_; refine T3.sIf ?_; refine T3.isCmp ?_ rfl); refine T3.nL (by kernel_rfl) rfl ?_; refine T3.cstr ?_; intro _; (with_reducible refine T3.sEq ?_; refine T3.truB ?_; refine no rfl ?_; refine T3.ss0 ?_; refine Nx.nx ?_; refine T3.ss1 ?_; refine T3.sIf ?_; refine T3.isCmp ?_ rfl); refine T3.nL (by kernel_rfl) rfl ?_; refine T3.cstr ?_; intro _; (with_reducible refine T3.sEq ?_; refine T3.truB ?_; refine yes rfl ?_; refine T3.ss1 ?_; refine T3.sRet ?_); refine T3.callm ?_ rfl rfl rfl (lit rfl); refine T3.nL (by kernel_rfl) rfl ?_; refine T3.mFM (by assumption) (by with_reducible assumption) (List.mem_cons_of_mem _ List.mem_cons_self) (by first | assumption | kernel_rfl) rfl (by kernel_rfl) rfl ?_; refine T3.cw1 (by assumption) rfl ?_; (with_reducible refine T3.ar1 ?_); refine T3.nL (by kernel_rfl) rfl ?_; (with_reducible refine T3.ar0 ?_)
      refine T3.frMd (pre := [_]) (σ₁ := [_, _]) (post := δ) (rquoted_ kf (hd.le (lit rfl)) hz hx1 hR1 hp0 (ha.get (i := 1) rfl) (ha.get (i := 2) rfl) (ha.get (i := 3) rfl) h1 h2) ?_
      rintro _ P2 _ q2 hqa; obtain ⟨hn, t5, rfl⟩ := hqa
      simp only [List.cons_append, List.nil_append, List.append_nil]
      (with_reducible refine Nx.ret ?_; refine Nx.ret ?_)
      exact Bk.mk ⟨hn, i2x1 td t5 rfl⟩
    | @dfn _ w _ hw hok =>
      obtain rfl : 123 = c0 := by simpa using congrArg List.head? hl0
      refine no (ne_beq (a := 123) (b := 40) (by decide)) ?_
      (with_reducible refine T3.ss0 ?_; refine Nx.nx ?_; refine T3.ss1 ?_; refine T3.sIf ?_; refine T3.isCmp ?_ rfl); refine T3.nL (by kernel_rfl) rfl ?_; refine T3.cstr ?_; intro _; (with_reducible refine T3.sEq ?_; refine T3.truB ?_; refine no rfl ?_; refine T3.ss0 ?_; refine Nx.nx ?_; refine T3.ss1 ?_; refine T3.sIf ?_; refine T3.isCmp ?_ rfl); refine T3.nL (by kernel_rfl) rfl ?_; refine T3.cstr ?_; intro _; (with_reducible refine T3.sEq ?_; refine T3.truB ?_; refine no rfl ?_; refine T3.ss0 ?_; refine Nx.nx ?_; refine T3.ss1 ?_; refine T3.sIf ?_; refine T3.isCmp ?_ rfl); refine T3.nL (by kernel_rfl) rfl ?_; refine T3.cstr ?_; intro _; (with_reducible refine T3.sEq ?_; refine T3.truB ?_; refine yes rfl ?_; refine T3.ss1 ?_; refine T3.sRet ?_); refine T3.callm ?_ rfl rfl rfl (lit rfl); refine T3.nL (by kernel_rfl) rfl ?_; refine T3.mFM (by assumption) (by with_reducible assumption) (List.mem_cons_of_mem _ List.mem_cons_self) (by first | assumption | kernel_rfl) rfl (by kernel_rfl) rfl ?_; refine T3.cw1 (by assumption) rfl ?_; (with_reducible refine T3.ar1 ?_); refine T3.nL (by kernel_rfl) rfl ?_; (with_reducible refine T3.ar0 ?_)
      have hat : At T (p + 1) (w ++ [125]) := At.right (a := [123]) ha
      obtain ⟨w0, wr, rfl⟩ : ∃ w0 wr, w = w0 :: wr := by
        cases w with
        | nil => exact absurd rfl hok.1
        | cons a b => exact ⟨a, b, rfl⟩
      refine T3.frTl (pre := [_]) (rdefined_ (p := p + 1) (c0 := w0) kf (hd.le (lit rfl)) hz hx1 hR1 hD1 hw (w0 :: wr).length (hat.left.get (i := 0) rfl) (hok.2.2 w0 rfl) (fun i hi => ⟨_, hat.left.get (List.getElem?_eq_getElem hi), hok.2.1 _ (List.getElem_mem hi)⟩) (by simp) (hat.right.get (i := 0) rfl) ?_) ?_
      · obtain ⟨r, e⟩ := hat.left
        rw [e, List.take_left]
      rintro _ P2 _ q2 hqa; obtain ⟨hn, t5, rfl⟩ := hqa
      simp only [List.cons_append, List.nil_append, List.append_nil]
      (with_reducible refine Nx.ret ?_; refine Nx.ret ?_)
      refine Bk.mk ⟨hn, i2x1 td t5 ?_⟩
      have : p + 1 + (w0 :: wr).length + 1 = p + (123 :: (w0 :: wr ++ [125])).length := by simp; omega
      rw [this]
      rfl
    | @par _ la lb ta _ hlt h1 h2 =>
      obtain rfl : 40 = c0 := by simpa using congrArg List.head? hl0
      refine yes (by kernel_rfl) ?_
      (with_reducible refine T3.ss1 ?_; refine T3.sIf ?_; refine T3.isCmp ?_ rfl; refine T3.attr ?_ rfl); refine T3.nL (by kernel_rfl) rfl ?_; refine T3.gM (by assumption) (by with_reducible assumption) (List.mem_cons_of_mem _ List.mem_cons_self) (by first | assumption | kernel_rfl) (by kernel_rfl) rfl (by first | rfl | assumption) ?_; refine T3.nG (by assumption) (by kernel_rfl) rfl ?_; (with_reducible refine T3.iEq ?_; refine T3.truB ?_)
      refine no (by simp; omega) ?_
      (with_reducible refine T3.ss0 ?_; refine Nx.nx ?_; refine T3.ss1 ?_); refine T3.sAsg ?_ rfl rfl rfl; (with_reducible refine T3.binop ?_; refine T3.attr ?_ rfl); refine T3.nL (by kernel_rfl) rfl ?_; refine T3.gM (by assumption) (by with_reducible assumption) (List.mem_cons_of_mem _ List.mem_cons_self) (by first | assumption | kernel_rfl) (by kernel_rfl) rfl (by first | rfl | assumption) ?_; refine T3.cint ?_; intro _; refine T3.iAdd ?_; intro _; (with_reducible refine T3.aAttr ?_); refine T3.nL (by kernel_rfl) rfl ?_; refine T3.sFM (by assumption) (by with_reducible assumption) (by first | assumption | kernel_rfl) (by first | assumption | kernel_rfl) rfl (lit rfl) ?_; (with_reducible refine Nx.nx ?_; refine T3.ss1 ?_); refine T3.sAsg ?_ rfl rfl rfl; refine T3.callm ?_ rfl rfl rfl (lit rfl); refine T3.nL (by kernel_rfl) rfl ?_; refine T3.mFM (by assumption) (by with_reducible assumption) (List.mem_cons_of_mem _ List.mem_cons_self) (by first | assumption | kernel_rfl) rfl (by kernel_rfl) rfl ?_; refine T3.cw10 (by assumption) rfl ?_
      have hat : At T (p + 1) (la ++ (lb ++ [41])) := At.right (a := [40]) ha
      have hat' : At T (p + 1) ((la ++ lb) ++ [41]) := by rwa [List.append_assoc]
      have hend : T[p + 1 + (la.length + lb.length)]? = some 41 := by have := hat'.right.get (i := 0) rfl; simpa using this
      have hln : la.length + lb.length ≤ n := by simp at hl; omega
      refine T3.frTl (pre := [_]) (choice_ (d := d + 1) (p := p + 1) kf hz ih h1 h2 hln (by omega) (hd.le (by omega)) hx1 hR1 hD1 hat'.left (.inr (.inl (sg_some hend)))) ?_
      rintro _ P2 _ q2 hqa; obtain ⟨hn, hqb⟩ := hqa; refine e2x1 hqb ?_; clear hqb; rintro td5 t5 hra; subst hra
      simp only [List.cons_append, List.nil_append, List.append_nil]
      (with_reducible refine T3.aName ?_); refine T3.st rfl ?_ (by kernel_rfl); (with_reducible refine Nx.nx ?_; refine T3.ss1 ?_; refine T3.sIf ?_; refine T3.isNot ?_); refine T3.isT rfl ?_; refine T3.callm ?_ rfl rfl rfl (lit rfl); (with_reducible refine T3.attr ?_ rfl); refine T3.nL (by kernel_rfl) rfl ?_; refine T3.gM (by assumption) (by (with_reducible (apply Le.ap); (focus assumption); assumption)) (List.mem_cons_of_mem _ List.mem_cons_self) (by first | assumption | kernel_rfl) (by kernel_rfl) rfl (by first | rfl | assumption) ?_; refine T3.mFM (by assumption) (by (with_reducible (apply Le.ap); (focus assumption); assumption)) (List.mem_cons_of_mem _ (List.mem_cons_of_mem _ List.mem_cons_self)) (by first | assumption | kernel_rfl) rfl (by kernel_rfl) rfl ?_; refine T3.cw1 (by assumption) rfl ?_; (with_reducible refine T3.ar1 ?_); refine T3.cstr ?_; intro _; (with_reducible refine T3.ar0 ?_)
      rw [show Str.ofString ")" = S [41] from rfl]
      refine T3.frAt (pre := [_, _]) (skip_ (w := [41]) kf (hd.le (lit rfl)) hz (le'_ hx1 q2) (by decide)) ?_
      rintro _ P3 _ q3 hqa; obtain ⟨rfl, t6, rfl⟩ := hqa
      simp only [List.cons_append, List.nil_append, List.append_nil]
      rw [atW_one, sg_some hend]
      (with_reducible refine T3.truB ?_; refine no rfl ?_; refine T3.ss0 ?_; refine Nx.nx ?_; refine T3.ss1 ?_); refine T3.sAsg ?_ rfl rfl rfl; (with_reducible refine T3.binop ?_; refine T3.attr ?_ rfl); refine T3.nL (by kernel_rfl) rfl ?_; refine T3.gM (by assumption) (by (with_reducible (apply Le.ap); (focus assumption); (apply Le.ap); (focus assumption); assumption)) (List.mem_cons_of_mem _ List.mem_cons_self) (by first | assumption | kernel_rfl) (by kernel_rfl) rfl (by first | rfl | assumption) ?_; refine T3.cint ?_; intro _; refine T3.iSub ?_; intro _; (with_reducible refine T3.aAttr ?_); refine T3.nL (by kernel_rfl) rfl ?_; refine T3.sFM (by assumption) (by (with_reducible (apply Le.ap); (focus assumption); (apply Le.ap); (focus assumption); assumption)) (by first | assumption | kernel_rfl) (by first | assumption | kernel_rfl) rfl (lit rfl) ?_; (with_reducible refine Nx.nx ?_; refine T3.ss1 ?_; refine T3.sRet ?_); refine T3.nL (by kernel_rfl) rfl ?_; (with_reducible refine Nx.ret ?_; refine Nx.ret ?_)
      rw [if_pos (by decide)]
      have e1 : ((d + 1 : Nat) : Int) - 1 = (d : Int) := by omega
      have e2 : p + 1 + (la.length + lb.length) + [41].length = p + (40 :: (la ++ (lb ++ [41]))).length := by simp; omega
      rw [e1, e2]
      exact Bk.mk ⟨hn.le q3, i2x1 _ t6 rfl⟩
end
/-! the count of the brackets -/
section
variable {c : Cx} {A : Around} {P : Vw} {σ : St} {E : Value → Vw → St → Prop} {Q : Value → Vw → St → Prop} {y : Str}
theorem T3.dC0 {f : Addr} {st : Stmt} {q : Str} {dV : Value} {args : List Value} (F : FnS c f st q dV) (m : Lo) (y : Str) (hr : A.depth < recursionLimit)
    (hb : ∀ name doc pm cdv ct an τ s, Gd c P σ τ s → BindsTo s (fnOf name q (fdP st) (fdB st) (fdS st) dV .none doc pm an cdv ct) ⟨args, []⟩ m.reverse)
    (hk : (m.all fun x => decide ((fdS st).names.lookup x.1 = some .local)) = true) (hc : ∀ n, cellsFrom n (fdS st).names [] = [(y, n)]) (hfl : (fdS st).isCoroutine = false ∧ (fdS st).isGenerator = false ∧ (fdS st).kind = .function)
    (h : ∀ L ca cd, T3 c (A.deeper (mkEC (fdS st) q L f cd y ca)) (execs (fdB st) (mkEC (fdS st) q L f cd y ca)) P ((L, NsP m) :: (ca, CeP none) :: σ) (Bk L fun v P' σ' => ∃ φ σ'', σ' = (ca, φ) :: σ'' ∧ Q v P' σ'') NoE) : T3 c A (PySem.call (.ref f) args) P σ Q E :=
  T3.call (C3.defC F m.reverse y hr hb (by rw [List.all_reverse]; exact hk) hc hfl fun L ca cd => by rw [List.reverse_reverse]; exact h L ca cd)
end
noncomputable def isPk : PK → Tr → Bool | .cat, .cat .. => true | .alt, .alt .. => true | _, _ => false
noncomputable def inn : PK → Nat | .cat => 2 | .alt => 1
/-- brackets needed by a tree under n loops at a place -/
noncomputable def need2 : Tr → Nat → Nat → Nat
  | .chr _, n, _ => (n - 1) / 20
  | .emp, n, _ => 1 + (n - 1) / 20
  | .cat l r, n, p => max (need2 l 0 (if isPk .cat l then 0 else 2)) (need2 r 0 2) + (if 2 ≤ p then 1 else 0) + (n - 1) / 20
  | .alt l r, n, p => max (need2 l 0 (if isPk .alt l then 0 else 1)) (need2 r 0 1) + (if 1 ≤ p then 1 else 0) + (n - 1) / 20
  | .loop _ b, n, _ => need2 b (n + 1) 2
noncomputable def need (t : Tr) (p : Nat) : Nat := need2 t 0 p
theorem need_loops (t : Tr) (n p : Nat) (h : ∀ k b, t ≠ .loop k b) : need2 t n p = need t p + (n - 1) / 20 := by
  cases t <;> simp [need2, need] <;> exact absurd rfl (h _ _)
theorem need_cat (l r : Tr) (p : Nat) : need (.cat l r) p = need (.cat l r) 0 + (if 2 ≤ p then 1 else 0) := by simp [need, need2]
theorem need_alt (l r : Tr) (p : Nat) : need (.alt l r) p = need (.alt l r) 0 + (if 1 ≤ p then 1 else 0) := by simp [need, need2]
/-- the greatest need of a spine's parts -/
theorem spl_max (k : PK) : ∀ (t : Tr), (∀ q ∈ spl k t, need q (inn k) ≤ need t (if isPk k t then 0 else inn k)) ∧ ∃ q ∈ spl k t, need q (inn k) = need t (if isPk k t then 0 else inn k) := by
  intro t
  induction t with
  | chr ch => cases k <;> simp [spl, isPk]
  | emp => cases k <;> simp [spl, isPk]
  | loop q b ih => cases k <;> simp [spl, isPk]
  | cat l r ihl ihr =>
    cases k
    · obtain ⟨h1, hqa⟩ := ihl; refine e1x2 hqa ?_; clear hqa; rintro q h2 h3
      have e : need (.cat l r) 0 = max (need l (if isPk .cat l then 0 else 2)) (need r 2) := by simp [need, need2]
      refine ⟨fun q' hq => ?_, ?_⟩
      · simp only [spl, List.mem_append, List.mem_singleton] at hq
        show need q' 2 ≤ need (.cat l r) 0
        rw [e]
        rcases hq with hq | rfl
        · exact Nat.le_trans (h1 q' hq) (Nat.le_max_left _ _)
        · exact Nat.le_max_right _ _
      · show ∃ q ∈ spl .cat l ++ [r], need q 2 = need (.cat l r) 0
        rw [e]
        by_cases hm : need r 2 ≤ need l (if isPk .cat l then 0 else 2)
        · exact i1x2 q (List.mem_append_left _ h2) (by rw [Nat.max_eq_left hm]; exact h3)
        · exact i1x2 r (List.mem_append_right _ (.head _)) (by rw [Nat.max_eq_right (by omega)])
    · exact ⟨fun q hq => by obtain rfl : q = _ := by simpa [spl] using hq
                            exact Nat.le_refl _, _, .head _, rfl⟩
  | alt l r ihl ihr =>
    cases k
    · exact ⟨fun q hq => by obtain rfl : q = _ := by simpa [spl] using hq
                            exact Nat.le_refl _, _, .head _, rfl⟩
    · obtain ⟨h1, hqa⟩ := ihl; refine e1x2 hqa ?_; clear hqa; rintro q h2 h3
      have e : need (.alt l r) 0 = max (need l (if isPk .alt l then 0 else 1)) (need r 1) := by simp [need, need2]
      refine ⟨fun q' hq => ?_, ?_⟩
      · simp only [spl, List.mem_append, List.mem_singleton] at hq
        show need q' 1 ≤ need (.alt l r) 0
        rw [e]
        rcases hq with hq | rfl
        · exact Nat.le_trans (h1 q' hq) (Nat.le_max_left _ _)
        · exact Nat.le_max_right _ _
      · show ∃ q ∈ spl .alt l ++ [r], need q 1 = need (.alt l r) 0
        rw [e]
        by_cases hm : need r 1 ≤ need l (if isPk .alt l then 0 else 1)
        · exact i1x2 q (List.mem_append_left _ h2) (by rw [Nat.max_eq_left hm]; exact h3)
        · exact i1x2 r (List.mem_append_right _ (.head _)) (by rw [Nat.max_eq_right (by omega)])
theorem ints_of {f : Tr → Int} : ∀ (ys : List Value) (ts : List Tr), ys.length = ts.length → (∀ (i : Nat) y, ys[i]? = some y → ∃ q k, ts[i]? = some q ∧ y = .int (f q) k) → IntsAre ys (ts.map f)
  | [], [], _, _ => .nil
  | y :: ys, t :: ts, hl, h => by
    refine e2x2 (h 0 y rfl) ?_; rintro q k h1 hra; subst hra
    obtain rfl : t = q := by simpa using h1
    exact .cons _ k (ints_of ys ts (by simpa using hl) fun i y e => h (i + 1) y (by simpa using e))
  | [], _ :: _, hl, _ => by simp at hl
  | _ :: _, [], hl, _ => by simp at hl
theorem max_of {k : PK} {t : Tr} {M : Int} (h1 : M ∈ (spl k t).map fun q => (need q (inn k) : Int)) (h2 : ∀ a, a ∈ ((spl k t).map fun q => (need q (inn k) : Int)) → a ≤ M) : M = need t (if isPk k t then 0 else inn k) := by
  obtain ⟨g1, hqa⟩ := spl_max k t; refine e1x2 hqa ?_; clear hqa; rintro q g2 g3
  refine e1x2 (List.mem_map.mp h1) ?_; rintro q' h3 hra; subst hra
  have := g1 q' h3
  have := h2 _ (List.mem_map.mpr ⟨q, g2, rfl⟩)
  omega
theorem castDiv {n a : Nat} (h : n ≠ 0) : (a : Int) + ((n : Int) - 1) / 20 = ((a + (n - 1) / 20 : Nat) : Int) := by
  obtain ⟨m, rfl⟩ := Nat.exists_eq_succ_of_ne_zero h
  have e : ((Nat.succ m : Nat) : Int) - 1 = (m : Int) := Int.add_sub_cancel (m : Int) 1
  rw [e]; rfl
section
variable {c : Cx}
theorem levels_ (kf : KF c) (kg : KG c) : ∀ (n : Nat) (t : Tr), t.sz ≤ n → ∀ {A : Around} {P : Vw} {x : Addr} {p : Nat} {tp : Tok}, Room A (t.ht + 6) → t.sz ≤ 10000 → Node P (.ref x) t → T3 c A (PySem.call (.ref 710) [.ref x, .int p tp]) P [] (fun v P' σ' => (∃ k, v = .int (need t p) k) ∧ σ' = []) NoE ∧
    (True → T3 c A (PySem.call (.ref 710) [.ref x]) P [] (fun v P' σ' => (∃ k, v = .int (need t 0) k) ∧ σ' = []) NoE) := by
  intro n
  induction n with
  | zero => intro t h; exact absurd h (by have := t.sz_pos; omega)
  | succ n ih =>
    intro t hn A P x p tp hr hz h
    have body : ∀ (p : Nat) (tp : Tok) (L ca : Addr) (cdv : Value), T3 c (A.deeper (mkEC (fdS (topS 48)) (Str.ofString "bracket_levels") L 710 cdv (Str.ofString "inner") ca)) (execs (fdB (topS 48)) (mkEC (fdS (topS 48)) (Str.ofString "bracket_levels") L 710 cdv (Str.ofString "inner") ca)) P
        ((L, NsP [(Str.ofString "level", .int p tp), (Str.ofString "node", .ref x)]) :: (ca, CeP none) :: []) (Bk L fun v P' σ' => ∃ φ σ'', σ' = (ca, φ) :: σ'' ∧ ((∃ k, v = .int (need t p) k) ∧ σ'' = [])) NoE := by
     intro p tp L ca cdv
     have hd : Room (A.deeper (mkEC (fdS (topS 48)) (Str.ofString "bracket_levels") L 710 cdv (Str.ofString "inner") ca)) (t.ht + 5) := hr.deeper
     refine T3.ss1 ?_
     cases t with
     | chr ch =>
       refine e2x3 (h) ?_; rintro _ s e hi hs
       cases e
       (with_reducible refine T3.sIf ?_; refine T3.isCmp ?_ rfl; refine T3.attr ?_ rfl); refine T3.nL (by kernel_rfl) rfl ?_; refine T3.gC (by assumption) (by with_reducible assumption) (by first | assumption | kernel_rfl) rfl rfl rfl (by kernel_rfl) ?_; refine T3.cstr ?_; intro _; (with_reducible refine T3.sEq ?_; refine T3.truB ?_; refine no rfl ?_; refine T3.ss0 ?_; refine Nx.nx ?_; refine T3.ss1 ?_; refine T3.sIf ?_; refine T3.isBool ?_; refine T3.or1 ?_; refine T3.isCmp ?_ rfl; refine T3.attr ?_ rfl); refine T3.nL (by kernel_rfl) rfl ?_; refine T3.gC (by assumption) (by with_reducible assumption) (by first | assumption | kernel_rfl) rfl rfl rfl (by kernel_rfl) ?_; refine T3.cstr ?_; intro _; (with_reducible refine T3.sEq ?_; refine T3.truB ?_; refine no rfl ?_; refine T3.or1 ?_; refine T3.isCmp ?_ rfl; refine T3.attr ?_ rfl); refine T3.nL (by kernel_rfl) rfl ?_; refine T3.gC (by assumption) (by with_reducible assumption) (by first | assumption | kernel_rfl) rfl rfl rfl (by kernel_rfl) ?_; refine T3.cstr ?_; intro _; (with_reducible refine T3.sEq ?_; refine T3.truB ?_; refine no rfl ?_; refine T3.or0 ?_; refine no rfl ?_; refine T3.ss0 ?_; refine Nx.nx ?_; refine T3.ss1 ?_); refine T3.sAsg ?_ rfl rfl rfl; refine T3.cint ?_; intro _; (with_reducible refine T3.aName ?_); refine T3.st rfl ?_ (by kernel_rfl); (with_reducible refine Nx.nx ?_; refine T3.ss1 ?_); refine T3.sAsg ?_ rfl rfl rfl; refine T3.nL (by kernel_rfl) rfl ?_; (with_reducible refine T3.aName ?_); refine T3.st rfl ?_ (by kernel_rfl); (with_reducible refine Nx.nx ?_; refine T3.ss1 ?_; refine T3.sWhile ?_)
       refine T3.wTurn ?_
       refine T3.isT rfl ?_; (with_reducible refine T3.calln ?_ rfl); refine T3.nB (by assumption) (by kernel_rfl) (by boot_by_name) ?_; (with_reducible refine T3.cwB ?_; refine T3.ar1 ?_); refine T3.nL (by kernel_rfl) rfl ?_; (with_reducible refine T3.ar1 ?_); refine T3.nG (by assumption) (by kernel_rfl) rfl ?_; (with_reducible refine T3.ar0 ?_)
       refine T3.isUser (C := 543) kf kg (by kernel_rfl) (by decide) kf.loopC.1 kf.loopC.2.1 kf.loopC.2.2 (kf.loopF 543 (by kernel_rfl)) hi ?_
       (with_reducible refine T3.truB ?_; refine no rfl ?_; refine T3.ss0 ?_; refine Nx.nx ?_; refine T3.ss1 ?_; refine T3.sIf ?_; refine T3.isCmp ?_ rfl); refine T3.nL (by kernel_rfl) rfl ?_; refine T3.cint ?_; intro _; (with_reducible refine T3.iEq ?_; refine T3.truB ?_; refine yes rfl ?_; refine T3.ss1 ?_; refine T3.sRet ?_); refine T3.cint ?_; intro _; (with_reducible refine Nx.ret ?_; refine Nx.ret ?_)
       exact Bk.mk (i2x3 _ _ rfl ⟨_, rfl⟩ rfl)
     | emp =>
       refine e1x2 (h) ?_; rintro _ e hi
       cases e
       (with_reducible refine T3.sIf ?_; refine T3.isCmp ?_ rfl; refine T3.attr ?_ rfl); refine T3.nL (by kernel_rfl) rfl ?_; refine T3.gC (by assumption) (by with_reducible assumption) (by first | assumption | kernel_rfl) rfl rfl rfl (by kernel_rfl) ?_; refine T3.cstr ?_; intro _; (with_reducible refine T3.sEq ?_; refine T3.truB ?_; refine yes rfl ?_; refine T3.ss1 ?_; refine T3.sRet ?_); refine T3.cint ?_; intro _; (with_reducible refine Nx.ret ?_; refine Nx.ret ?_)
       exact Bk.mk (i2x3 _ _ rfl ⟨_, rfl⟩ rfl)
     | cat l r =>
       have h0 := h
       refine e3x4 (h0) ?_; rintro _ a b e hi hl hrr
       cases e
       (with_reducible refine T3.sIf ?_; refine T3.isCmp ?_ rfl; refine T3.attr ?_ rfl); refine T3.nL (by kernel_rfl) rfl ?_; refine T3.gC (by assumption) (by with_reducible assumption) (by first | assumption | kernel_rfl) rfl rfl rfl (by kernel_rfl) ?_; refine T3.cstr ?_; intro _; (with_reducible refine T3.sEq ?_; refine T3.truB ?_; refine no rfl ?_; refine T3.ss0 ?_; refine Nx.nx ?_; refine T3.ss1 ?_; refine T3.sIf ?_; refine T3.isBool ?_; refine T3.or1 ?_; refine T3.isCmp ?_ rfl; refine T3.attr ?_ rfl); refine T3.nL (by kernel_rfl) rfl ?_; refine T3.gC (by assumption) (by with_reducible assumption) (by first | assumption | kernel_rfl) rfl rfl rfl (by kernel_rfl) ?_; refine T3.cstr ?_; intro _; (with_reducible refine T3.sEq ?_; refine T3.truB ?_; refine no rfl ?_; refine T3.or1 ?_; refine T3.isCmp ?_ rfl; refine T3.attr ?_ rfl); refine T3.nL (by kernel_rfl) rfl ?_; refine T3.gC (by assumption) (by with_reducible assumption) (by first | assumption | kernel_rfl) rfl rfl rfl (by kernel_rfl) ?_; refine T3.cstr ?_; intro _; (with_reducible refine T3.sEq ?_; refine T3.truB ?_; refine yes rfl ?_; refine yes rfl ?_; refine T3.ss1 ?_); refine T3.sAsg ?_ rfl rfl rfl; (with_reducible refine T3.ifexp ?_; refine T3.isCmp ?_ rfl; refine T3.attr ?_ rfl); refine T3.nL (by kernel_rfl) rfl ?_; refine T3.gC (by assumption) (by with_reducible assumption) (by first | assumption | kernel_rfl) rfl rfl rfl (by kernel_rfl) ?_; refine T3.cstr ?_; intro _; (with_reducible refine T3.sEq ?_; refine T3.truB ?_; refine no rfl ?_); refine T3.nG (by assumption) (by kernel_rfl) rfl ?_; (with_reducible refine T3.aName ?_)
       refine T3.stC (v₀ := none) (by kernel_rfl) (by kernel_rfl) rfl ?_
       (with_reducible refine Nx.nx ?_; refine T3.ss1 ?_); refine T3.sAsg ?_ rfl rfl rfl; (with_reducible refine T3.calln ?_ rfl); refine T3.nB (by assumption) (by kernel_rfl) (by boot_by_name) ?_; (with_reducible refine T3.cwB ?_; refine T3.ar1 ?_)
       refine T3.eLC (cl := [(Str.ofString "inner", ca)]) hd.no (fun _ => rfl) rfl (by kernel_rfl) rfl (by kernel_rfl) rfl ?_
       (with_reducible refine T3.calln ?_ rfl); refine T3.nG (by assumption) (by kernel_rfl) rfl ?_; refine T3.cw0 (by assumption) rfl ?_; (with_reducible refine T3.ar1 ?_); refine T3.nL (by kernel_rfl) rfl ?_; (with_reducible refine T3.ar0 ?_)
       refine T3.fr0 (spine_ kf (hd.le (lit rfl)) .cat (l := l) (r := r) h hz) ?_ (fun _ _ _ q => q.2)
       rintro _ P1 l1 hqa; obtain ⟨hqb, _⟩ := hqa; refine e2x3 hqb ?_; clear hqb; rintro ra xs hra hls hns0; subst hra
       have hns : Nodes P1 xs (spl .cat (.cat l r)) := hns0
       have subs : ∀ q, q ∈ spl .cat (.cat l r) → q.ht < (Tr.cat l r).ht ∧ q.sz < (Tr.cat l r).sz := fun q hq => mkp_sub .cat l r q hq
       refine ⟨xs.length, _, fun i y P' => ∃ q k, (spl .cat (.cat l r))[i]? = some q ∧ y = .int (need q 2) k, ⟨ItK.li hls, by have := hns.len; have := spl_len .cat (.cat l r); rw [sizeLine_eq]; omega, ?_, ?_, ?_⟩⟩
       · rintro i y P2 P3 l hqa; refine e2x2 hqa ?_; clear hqa; rintro q k h1 h2
         exact i2x2 q k h1 h2
       · intro C i v P2 l2 hil hvi
         refine e1x2 (hns.at hvi) ?_; rintro q hq hqn
         obtain ⟨z, rfl⟩ := hqn.ref
         have sq := subs q (List.mem_of_getElem? hq)
         (with_reducible refine T3.calln ?_ rfl); refine T3.nG (by assumption) (by kernel_rfl) rfl ?_; refine T3.cw0 (by assumption) rfl ?_; (with_reducible refine T3.ar1 ?_); refine T3.nL (by kernel_rfl) rfl ?_; (with_reducible refine T3.ar1 ?_)
         refine T3.ldC (by kernel_rfl) (by kernel_rfl) rfl (by exact (List.mem_cons_of_mem _ (List.mem_cons_of_mem _ List.mem_cons_self))) (by kernel_rfl) ?_
         (with_reducible refine T3.ar0 ?_)
         refine T3.fr0 (ih q (by omega) (p := 2) (tp := 892) (hd.le (by omega)) (by omega) (hqn.le l2)).1 ?_ (fun _ _ _ q => q.2)
         rintro _ P3 l3 ⟨⟨k, rfl⟩, _⟩
         exact ⟨rfl, i2x2 q k hq rfl⟩
       · intro Dl ys P2 l2 hly hF
         show T3 c _ _ _ _ _ _
         (with_reducible refine T3.ar0 ?_)
         refine T3.freezeLi (pre := [_]) fun P3 l3 hb => ?_
         simp only [List.cons_append, List.nil_append, List.append_nil]
         have hI := ints_of (f := fun q => (need q (inn .cat) : Int)) ys (spl .cat (.cat l r)) (by rw [hly]; exact hns.len) hF
         refine T3.lMax hd.no hb hI (by rw [List.length_map]; exact List.length_pos_iff.mpr (spl_ne _ _)) fun M k hM hmx => ?_
         obtain rfl := max_of hM hmx
         (with_reducible refine T3.aName ?_); refine T3.st rfl ?_ (by kernel_rfl); (with_reducible refine Nx.nx ?_; refine T3.ss1 ?_; refine T3.sRet ?_; refine T3.binop ?_); refine T3.nL (by kernel_rfl) rfl ?_; (with_reducible refine T3.ifexp ?_; refine T3.isCmp ?_ rfl); refine T3.nL (by kernel_rfl) rfl ?_
         refine T3.ldC (by kernel_rfl) (by kernel_rfl) rfl (by exact (List.mem_cons_of_mem _ List.mem_cons_self)) (by kernel_rfl) ?_
         (with_reducible refine T3.iGe ?_; refine T3.truB ?_)
         by_cases hp : 2 ≤ p
         · refine yes (by simp; omega) ?_
           refine T3.cint ?_; intro _; refine T3.iAdd ?_; intro _; (with_reducible refine Nx.ret ?_; refine Nx.ret ?_)
           exact Bk.mk (i2x3 _ _ rfl ⟨_, congrArg (fun i => Value.int i _) (by have h1 := need_cat l r p; have h2 : (if isPk .cat (.cat l r) = true then 0 else inn .cat) = 0 := rfl; rw [h2]; simp only [hp, if_true, if_false] at h1; omega)⟩ rfl)
         · refine no (by simp; omega) ?_
           refine T3.cint ?_; intro _; refine T3.iAdd ?_; intro _; (with_reducible refine Nx.ret ?_; refine Nx.ret ?_)
           exact Bk.mk (i2x3 _ _ rfl ⟨_, congrArg (fun i => Value.int i _) (by have h1 := need_cat l r p; have h2 : (if isPk .cat (.cat l r) = true then 0 else inn .cat) = 0 := rfl; rw [h2]; simp only [hp, if_true, if_false] at h1; omega)⟩ rfl)
     | alt l r =>
       have h0 := h
       refine e3x4 (h0) ?_; rintro _ a b e hi hl hrr
       cases e
       (with_reducible refine T3.sIf ?_; refine T3.isCmp ?_ rfl; refine T3.attr ?_ rfl); refine T3.nL (by kernel_rfl) rfl ?_; refine T3.gC (by assumption) (by with_reducible assumption) (by first | assumption | kernel_rfl) rfl rfl rfl (by kernel_rfl) ?_; refine T3.cstr ?_; intro _; (with_reducible refine T3.sEq ?_; refine T3.truB ?_; refine no rfl ?_; refine T3.ss0 ?_; refine Nx.nx ?_; refine T3.ss1 ?_; refine T3.sIf ?_; refine T3.isBool ?_; refine T3.or1 ?_; refine T3.isCmp ?_ rfl; refine T3.attr ?_ rfl); refine T3.nL (by kernel_rfl) rfl ?_; refine T3.gC (by assumption) (by with_reducible assumption) (by first | assumption | kernel_rfl) rfl rfl rfl (by kernel_rfl) ?_; refine T3.cstr ?_; intro _; (with_reducible refine T3.sEq ?_; refine T3.truB ?_; refine yes rfl ?_; refine yes rfl ?_; refine T3.ss1 ?_); refine T3.sAsg ?_ rfl rfl rfl; (with_reducible refine T3.ifexp ?_; refine T3.isCmp ?_ rfl; refine T3.attr ?_ rfl); refine T3.nL (by kernel_rfl) rfl ?_; refine T3.gC (by assumption) (by with_reducible assumption) (by first | assumption | kernel_rfl) rfl rfl rfl (by kernel_rfl) ?_; refine T3.cstr ?_; intro _; (with_reducible refine T3.sEq ?_; refine T3.truB ?_; refine yes rfl ?_); refine T3.nG (by assumption) (by kernel_rfl) rfl ?_; (with_reducible refine T3.aName ?_)
       refine T3.stC (v₀ := none) (by kernel_rfl) (by kernel_rfl) rfl ?_
       (with_reducible refine Nx.nx ?_; refine T3.ss1 ?_); refine T3.sAsg ?_ rfl rfl rfl; (with_reducible refine T3.calln ?_ rfl); refine T3.nB (by assumption) (by kernel_rfl) (by boot_by_name) ?_; (with_reducible refine T3.cwB ?_; refine T3.ar1 ?_)
       refine T3.eLC (cl := [(Str.ofString "inner", ca)]) hd.no (fun _ => rfl) rfl (by kernel_rfl) rfl (by kernel_rfl) rfl ?_
       (with_reducible refine T3.calln ?_ rfl); refine T3.nG (by assumption) (by kernel_rfl) rfl ?_; refine T3.cw0 (by assumption) rfl ?_; (with_reducible refine T3.ar1 ?_); refine T3.nL (by kernel_rfl) rfl ?_; (with_reducible refine T3.ar0 ?_)
       refine T3.fr0 (spine_ kf (hd.le (lit rfl)) .alt (l := l) (r := r) h hz) ?_ (fun _ _ _ q => q.2)
       rintro _ P1 l1 hqa; obtain ⟨hqb, _⟩ := hqa; refine e2x3 hqb ?_; clear hqb; rintro ra xs hra hls hns0; subst hra
       have hns : Nodes P1 xs (spl .alt (.alt l r)) := hns0
       have subs : ∀ q, q ∈ spl .alt (.alt l r) → q.ht < (Tr.alt l r).ht ∧ q.sz < (Tr.alt l r).sz := fun q hq => mkp_sub .alt l r q hq
       refine ⟨xs.length, _, fun i y P' => ∃ q k, (spl .alt (.alt l r))[i]? = some q ∧ y = .int (need q 1) k, ⟨ItK.li hls, by have := hns.len; have := spl_len .alt (.alt l r); rw [sizeLine_eq]; omega, ?_, ?_, ?_⟩⟩
       · rintro i y P2 P3 l hqa; refine e2x2 hqa ?_; clear hqa; rintro q k h1 h2
         exact i2x2 q k h1 h2
       · intro C i v P2 l2 hil hvi
         refine e1x2 (hns.at hvi) ?_; rintro q hq hqn
         obtain ⟨z, rfl⟩ := hqn.ref
         have sq := subs q (List.mem_of_getElem? hq)
         (with_reducible refine T3.calln ?_ rfl); refine T3.nG (by assumption) (by kernel_rfl) rfl ?_; refine T3.cw0 (by assumption) rfl ?_; (with_reducible refine T3.ar1 ?_); refine T3.nL (by kernel_rfl) rfl ?_; (with_reducible refine T3.ar1 ?_)
         refine T3.ldC (by kernel_rfl) (by kernel_rfl) rfl (by exact (List.mem_cons_of_mem _ (List.mem_cons_of_mem _ List.mem_cons_self))) (by kernel_rfl) ?_
         (with_reducible refine T3.ar0 ?_)
         refine T3.fr0 (ih q (by omega) (p := 1) (tp := 890) (hd.le (by omega)) (by omega) (hqn.le l2)).1 ?_ (fun _ _ _ q => q.2)
         rintro _ P3 l3 ⟨⟨k, rfl⟩, _⟩
         exact ⟨rfl, i2x2 q k hq rfl⟩
       · intro Dl ys P2 l2 hly hF
         show T3 c _ _ _ _ _ _
         (with_reducible refine T3.ar0 ?_)
         refine T3.freezeLi (pre := [_]) fun P3 l3 hb => ?_
         simp only [List.cons_append, List.nil_append, List.append_nil]
         have hI := ints_of (f := fun q => (need q (inn .alt) : Int)) ys (spl .alt (.alt l r)) (by rw [hly]; exact hns.len) hF
         refine T3.lMax hd.no hb hI (by rw [List.length_map]; exact List.length_pos_iff.mpr (spl_ne _ _)) fun M k hM hmx => ?_
         obtain rfl := max_of hM hmx
         (with_reducible refine T3.aName ?_); refine T3.st rfl ?_ (by kernel_rfl); (with_reducible refine Nx.nx ?_; refine T3.ss1 ?_; refine T3.sRet ?_; refine T3.binop ?_); refine T3.nL (by kernel_rfl) rfl ?_; (with_reducible refine T3.ifexp ?_; refine T3.isCmp ?_ rfl); refine T3.nL (by kernel_rfl) rfl ?_
         refine T3.ldC (by kernel_rfl) (by kernel_rfl) rfl (by exact (List.mem_cons_of_mem _ List.mem_cons_self)) (by kernel_rfl) ?_
         (with_reducible refine T3.iGe ?_; refine T3.truB ?_)
         by_cases hp : 1 ≤ p
         · refine yes (by simp; omega) ?_
           refine T3.cint ?_; intro _; refine T3.iAdd ?_; intro _; (with_reducible refine Nx.ret ?_; refine Nx.ret ?_)
           exact Bk.mk (i2x3 _ _ rfl ⟨_, congrArg (fun i => Value.int i _) (by have h1 := need_alt l r p; have h2 : (if isPk .alt (.alt l r) = true then 0 else inn .alt) = 0 := rfl; rw [h2]; simp only [hp, if_true, if_false] at h1; omega)⟩ rfl)
         · refine no (by simp; omega) ?_
           refine T3.cint ?_; intro _; refine T3.iAdd ?_; intro _; (with_reducible refine Nx.ret ?_; refine Nx.ret ?_)
           exact Bk.mk (i2x3 _ _ rfl ⟨_, congrArg (fun i => Value.int i _) (by have h1 := need_alt l r p; have h2 : (if isPk .alt (.alt l r) = true then 0 else inn .alt) = 0 := rfl; rw [h2]; simp only [hp, if_true, if_false] at h1; omega)⟩ rfl)
     | loop k0 b0 =>
       refine e2x3 (id h) ?_; rintro _ a0 e hi hb0
       cases e
       (with_reducible refine T3.sIf ?_; refine T3.isCmp ?_ rfl; refine T3.attr ?_ rfl); refine T3.nL (by kernel_rfl) rfl ?_
       refine T3.name kf h ?_
       refine T3.cstr ?_; intro _; (with_reducible refine T3.sEq ?_; refine T3.truB ?_)
       refine no (by cases k0 <;> kernel_rfl) ?_
       (with_reducible refine T3.ss0 ?_; refine Nx.nx ?_; refine T3.ss1 ?_; refine T3.sIf ?_; refine T3.isBool ?_; refine T3.or1 ?_; refine T3.isCmp ?_ rfl; refine T3.attr ?_ rfl); refine T3.nL (by kernel_rfl) rfl ?_
       refine T3.name kf h ?_
       refine T3.cstr ?_; intro _; (with_reducible refine T3.sEq ?_; refine T3.truB ?_)
       refine no (by cases k0 <;> kernel_rfl) ?_
       (with_reducible refine T3.or1 ?_; refine T3.isCmp ?_ rfl; refine T3.attr ?_ rfl); refine T3.nL (by kernel_rfl) rfl ?_
       refine T3.name kf h ?_
       refine T3.cstr ?_; intro _; (with_reducible refine T3.sEq ?_; refine T3.truB ?_)
       refine no (by cases k0 <;> kernel_rfl) ?_
       (with_reducible refine T3.or0 ?_; refine no rfl ?_; refine T3.ss0 ?_; refine Nx.nx ?_; refine T3.ss1 ?_); refine T3.sAsg ?_ rfl rfl rfl; refine T3.cint ?_; intro _; (with_reducible refine T3.aName ?_); refine T3.st rfl ?_ (by kernel_rfl); (with_reducible refine Nx.nx ?_; refine T3.ss1 ?_); refine T3.sAsg ?_ rfl rfl rfl; refine T3.nL (by kernel_rfl) rfl ?_; (with_reducible refine T3.aName ?_); refine T3.st rfl ?_ (by kernel_rfl); (with_reducible refine Nx.nx ?_; refine T3.ss1 ?_; refine T3.sWhile ?_)
       let I1 : Tr → Vw → St → Prop := fun t' P' σ' => ∃ y m n' kk, σ' = [(L, NsP m), (ca, CeP none)] ∧ Has m [(Str.ofString "here", .ref y), (Str.ofString "loops", .int (n' : Nat) kk)] ∧ Node P' (.ref y) t' ∧ need2 t' n' 2 = need (.loop .star b0) p ∧ (n' = 0 → ∃ k, t' = .loop k b0) ∧ (n' ≠ 0 → t'.sz < (Tr.loop .star b0).sz ∧ t'.ht < (Tr.loop .star b0).ht) ∧ t'.sz + n' ≤ 10000
       refine C3.whileM Tr.sz I1 ?_ _
         ⟨x, _, 0, _, rfl, by repeat (first | exact Has.nil | refine Has.cons rfl ?_), h, rfl, fun _ => ⟨_, rfl⟩, fun q => absurd rfl q, hz⟩
       rintro t' P1 _ l1 hqa; refine e4x7 hqa ?_; clear hqa; rintro y m n' kk hra hm hn' he hz0 hnz hsz; subst hra
       refine T3.forget hm ?_
       refine T3.isT rfl ?_; (with_reducible refine T3.calln ?_ rfl); refine T3.nB (by assumption) (by kernel_rfl) (by boot_by_name) ?_; (with_reducible refine T3.cwB ?_; refine T3.ar1 ?_); refine T3.nL (by kernel_rfl) rfl ?_; (with_reducible refine T3.ar1 ?_); refine T3.nG (by assumption) (by kernel_rfl) rfl ?_; (with_reducible refine T3.ar0 ?_)
       have stop : (∀ k b, t' ≠ .loop k b) → n' ≠ 0 ∧ need2 t' n' 2 = need t' 2 + (n' - 1) / 20 ∧ t'.sz ≤ n ∧ t'.ht < (Tr.loop .star b0).ht := fun hnl => by
         have h1 : n' ≠ 0 := fun q => by obtain ⟨k, e⟩ := hz0 q; exact hnl k b0 e
         exact i0x4 h1 (need_loops t' n' 2 hnl) (Nat.le_of_lt_succ (Nat.lt_of_lt_of_le (hnz h1).1 hn)) ((hnz h1).2)
       rcases t'.loopOr with ⟨k, b, rfl⟩ | hnl
       · refine e2x3 (hn') ?_; rintro _ a e hi' hb'
         cases e
         have hs2 : b.sz + (n' + 1) ≤ 10000 := by rw [← Nat.add_assoc, Nat.add_right_comm]; exact hsz
         have hin : b.sz < (Tr.loop .star b0).sz ∧ b.ht < (Tr.loop .star b0).ht := by
           by_cases q : n' = 0
           · subst q
             obtain ⟨k', e⟩ := hz0 rfl
             cases e
             exact ⟨Nat.lt_succ_self _, Nat.lt_succ_self _⟩
           · obtain ⟨h1, h2⟩ := hnz q
             exact ⟨Nat.lt_of_succ_lt h1, Nat.lt_of_succ_lt h2⟩
         cases k
         · refine T3.isLoopT kf rfl hi' ?_
           (with_reducible refine T3.truB ?_; refine yes rfl ?_; refine T3.ss1 ?_); refine T3.sAsg ?_ rfl rfl rfl; (with_reducible refine T3.binop ?_); refine T3.nL (by kernel_rfl) rfl ?_; refine T3.cint ?_; intro _; refine T3.iAdd ?_; intro _; (with_reducible refine T3.aName ?_); refine T3.st rfl ?_ (by kernel_rfl); (with_reducible refine Nx.nx ?_; refine T3.ss1 ?_); refine T3.sAsg ?_ rfl rfl rfl; (with_reducible refine T3.attr ?_ rfl); refine T3.nL (by kernel_rfl) rfl ?_; refine T3.gI (by assumption) (by with_reducible assumption) (by first | assumption | kernel_rfl) (by kernel_rfl) rfl (by first | rfl | assumption) ?_; (with_reducible refine T3.aName ?_); refine T3.st rfl ?_ (by kernel_rfl); (with_reducible refine Nx.nx ?_; refine T3.ss0 ?_)
           exact ⟨b, Nat.lt_succ_self _, i4x7 a _ (n' + 1) _ rfl (by repeat (first | exact Has.nil | refine Has.cons rfl ?_)) hb' he (fun q => absurd q (Nat.succ_ne_zero _)) (fun _ => hin) hs2⟩
         · refine T3.isLoopT kf rfl hi' ?_
           (with_reducible refine T3.truB ?_; refine yes rfl ?_; refine T3.ss1 ?_); refine T3.sAsg ?_ rfl rfl rfl; (with_reducible refine T3.binop ?_); refine T3.nL (by kernel_rfl) rfl ?_; refine T3.cint ?_; intro _; refine T3.iAdd ?_; intro _; (with_reducible refine T3.aName ?_); refine T3.st rfl ?_ (by kernel_rfl); (with_reducible refine Nx.nx ?_; refine T3.ss1 ?_); refine T3.sAsg ?_ rfl rfl rfl; (with_reducible refine T3.attr ?_ rfl); refine T3.nL (by kernel_rfl) rfl ?_; refine T3.gI (by assumption) (by with_reducible assumption) (by first | assumption | kernel_rfl) (by kernel_rfl) rfl (by first | rfl | assumption) ?_; (with_reducible refine T3.aName ?_); refine T3.st rfl ?_ (by kernel_rfl); (with_reducible refine Nx.nx ?_; refine T3.ss0 ?_)
           exact ⟨b, Nat.lt_succ_self _, i4x7 a _ (n' + 1) _ rfl (by repeat (first | exact Has.nil | refine Has.cons rfl ?_)) hb' he (fun q => absurd q (Nat.succ_ne_zero _)) (fun _ => hin) hs2⟩
         · refine T3.isLoopT kf rfl hi' ?_
           (with_reducible refine T3.truB ?_; refine yes rfl ?_; refine T3.ss1 ?_); refine T3.sAsg ?_ rfl rfl rfl; (with_reducible refine T3.binop ?_); refine T3.nL (by kernel_rfl) rfl ?_; refine T3.cint ?_; intro _; refine T3.iAdd ?_; intro _; (with_reducible refine T3.aName ?_); refine T3.st rfl ?_ (by kernel_rfl); (with_reducible refine Nx.nx ?_; refine T3.ss1 ?_); refine T3.sAsg ?_ rfl rfl rfl; (with_reducible refine T3.attr ?_ rfl); refine T3.nL (by kernel_rfl) rfl ?_; refine T3.gI (by assumption) (by with_reducible assumption) (by first | assumption | kernel_rfl) (by kernel_rfl) rfl (by first | rfl | assumption) ?_; (with_reducible refine T3.aName ?_); refine T3.st rfl ?_ (by kernel_rfl); (with_reducible refine Nx.nx ?_; refine T3.ss0 ?_)
           exact ⟨b, Nat.lt_succ_self _, i4x7 a _ (n' + 1) _ rfl (by repeat (first | exact Has.nil | refine Has.cons rfl ?_)) hb' he (fun q => absurd q (Nat.succ_ne_zero _)) (fun _ => hin) hs2⟩
       · refine e1x2 (hn'.inst) ?_; rintro fs5 hi' _
         obtain ⟨q1, q2⟩ := Tr.noLoop hnl
         refine T3.isUser (C := t'.cls) kf kg t'.inTab.1 q1 kf.loopC.1 kf.loopC.2.1 kf.loopC.2.2 (kf.loopF t'.cls q2) hi' ?_
         refine e0x4 (stop hnl) ?_; rintro g1 g2 g3 g4
         (with_reducible refine T3.truB ?_; refine no rfl ?_; refine T3.ss0 ?_; refine Nx.nx ?_; refine T3.ss1 ?_; refine T3.sIf ?_; refine T3.isCmp ?_ rfl); refine T3.nL (by kernel_rfl) rfl ?_; refine T3.cint ?_; intro _; (with_reducible refine T3.iEq ?_; refine T3.truB ?_)
         refine no (by simpa using g1) ?_
         (with_reducible refine T3.ss0 ?_; refine Nx.nx ?_; refine T3.ss1 ?_; refine T3.sRet ?_; refine T3.binop ?_; refine T3.calln ?_ rfl); refine T3.nG (by assumption) (by kernel_rfl) rfl ?_; refine T3.cw0 (by assumption) rfl ?_; (with_reducible refine T3.ar1 ?_); refine T3.nL (by kernel_rfl) rfl ?_; (with_reducible refine T3.ar1 ?_); refine T3.nG (by assumption) (by kernel_rfl) rfl ?_; (with_reducible refine T3.ar0 ?_)
         refine T3.fr0 (ih _ g3 (p := 2) (tp := 892) (hd.le (Nat.add_le_add_right (show t'.ht + 1 ≤ (Tr.loop k0 b0).ht from g4) 5)) (Nat.le_trans (Nat.le_add_right ..) hsz) hn').1 ?_ (fun _ _ _ q => q.2)
         rintro _ P2 l2 ⟨⟨k5, rfl⟩, _⟩
         (with_reducible refine T3.binop ?_; refine T3.binop ?_); refine T3.nL (by kernel_rfl) rfl ?_; refine T3.cint ?_; intro _; refine T3.iSub ?_; intro _; refine T3.nG (by assumption) (by kernel_rfl) rfl ?_
         refine T3.iDiv (by decide) rfl fun _ => ?_
         refine T3.iAdd ?_; intro _; (with_reducible refine Nx.ret ?_)
         exact Bk.mk (i2x3 _ _ rfl ⟨_, congrArg (fun i => Value.int i _) (by rw [g2] at he; exact (castDiv g1).trans (congrArg Int.ofNat he))⟩ rfl)

    refine ⟨?_, fun _ => ?_⟩
    · exact T3.dC0 kf.f_bracket_levels [(Str.ofString "level", .int p tp), (Str.ofString "node", .ref x)] (Str.ofString "inner") hr.dep (fun name doc pm cdv ct an τ s g => by
        refine e1x2 (kf.dflt 705 _ rfl) ?_; rintro o ho hs
        exact BindsTo.of_defaults rfl (g.kin _ _ ho) hs rfl rfl) (by kernel_rfl) (fun _ => rfl) ⟨by kernel_rfl, by kernel_rfl, by kernel_rfl⟩ (body p tp)
    · exact T3.dC0 kf.f_bracket_levels [(Str.ofString "level", .int (0 : Nat) 888), (Str.ofString "node", .ref x)] (Str.ofString "inner") hr.dep (fun name doc pm cdv ct an τ s g => by
        refine e1x2 (kf.dflt 705 _ rfl) ?_; rintro o ho hs
        exact BindsTo.of_defaults rfl (g.kin _ _ ho) hs rfl rfl) (by kernel_rfl) (fun _ => rfl) ⟨by kernel_rfl, by kernel_rfl, by kernel_rfl⟩ (body 0 888)
end
/-! making a reader -/
section
variable {c : Cx} {A : Around} {P : Vw} {σ : St} {T : List Nat} {p : Nat} {tt tp : Tok} {dv : Value} {pat : Bool}
theorem cur_new (kf : KF c) (hr : Room A 6) : T3 c A (PySem.call (.ref 222) [.str (S T) tt, .int p tp]) P [] (fun v P' σ' => ∃ x cd, v = .ref x ∧ P' x = some (instObj 222 cd) ∧ σ' = [(cd, IsF (cF T tt p tp))]) NoE := by
  let Q1 : KO Value := fun v P' σ' => ∃ x cd, v = .ref x ∧ P' x = some (instObj 222 cd) ∧ σ' = [(cd, IsF (cF T tt p tp))]
  show T3 _ _ _ _ _ Q1 _
  refine T3.new (C := 222) (fI := 112) kf (by kernel_rfl) rfl (by kernel_rfl) fun x dx P1 l1 hx => ?_
  refine C3.d1 kf kf.f_Cursor___init__ [("at", .int p tp), ("text", .str (S T) tt), ("self", .ref x)] (Room.make (n := 4) hr).dep rfl (fun _ _ _ _ _ _ => ⟨_, rfl, rfl⟩) (by kernel_rfl) fun L cdv => ?_
  refine T3.ss1 ?_
  refine T3.sAsg ?_ rfl rfl rfl; refine T3.nL (by kernel_rfl) rfl ?_; (with_reducible refine T3.aAttr ?_); refine T3.nL (by kernel_rfl) rfl ?_; refine T3.sFM (by assumption) (by with_reducible assumption) (by first | assumption | kernel_rfl) (by first | assumption | kernel_rfl) rfl (lit rfl) ?_; (with_reducible refine Nx.nx ?_; refine T3.ss1 ?_); refine T3.sAsg ?_ rfl rfl rfl; refine T3.nL (by kernel_rfl) rfl ?_; (with_reducible refine T3.aAttr ?_); refine T3.nL (by kernel_rfl) rfl ?_; refine T3.sFM (by assumption) (by with_reducible assumption) (by first | assumption | kernel_rfl) (by first | assumption | kernel_rfl) rfl (lit rfl) ?_; (with_reducible refine Nx.nx ?_; refine T3.ss0 ?_)
  exact Bk.mk0 ⟨rfl, x, dx, rfl, hx, rfl⟩
theorem reader_new (kf : KF c) (hr : Room A 12) (hd : handedIn dv = true) : T3 c A (PySem.call (.ref 907) [.str (S T) tt, .int p tp, dv, .bool pat]) P [] (fun v P' σ' => ∃ R rd x cd td, v = .ref R ∧ P' R = some (instObj 907 rd) ∧ P' x = some (instObj 222 cd) ∧ σ' = [(rd, IsF (rF x dv pat 0 td)), (cd, IsF (cF T tt p tp))]) NoE := by
  let Q1 : KO Value := fun v P' σ' => ∃ R rd x cd td, v = .ref R ∧ P' R = some (instObj 907 rd) ∧ P' x = some (instObj 222 cd) ∧ σ' = [(rd, IsF (rF x dv pat 0 td)), (cd, IsF (cF T tt p tp))]
  show T3 _ _ _ _ _ Q1 _
  refine T3.new (C := 907) (fI := 794) kf (by kernel_rfl) rfl (by kernel_rfl) fun x dx P1 l1 hx => ?_
  refine C3.d0 kf.f_RegexReader___init__ [("is_pattern", .bool pat), ("definitions", dv), ("at", .int p tp), ("text", .str (S T) tt), ("self", .ref x)] (Room.make (n := 10) hr).dep (fun _ _ _ _ _ _ => by kernel_rfl) (by kernel_rfl) fun L cdv => ?_
  have hd' := (Room.make (C := 907) (args := [.str (S T) tt, .int p tp, dv, .bool pat]) (n := 10) hr).deeper (env := mkE (fdS (clsS 54 0)) (Str.ofString "RegexReader.__init__") L 794 cdv)
  refine T3.ss1 ?_
  refine T3.sAsg ?_ rfl rfl rfl; (with_reducible refine T3.calln ?_ rfl); refine T3.nG (by assumption) (by kernel_rfl) rfl ?_; refine T3.cwC (by assumption) rfl ?_; (with_reducible refine T3.ar1 ?_); refine T3.nL (by kernel_rfl) rfl ?_; (with_reducible refine T3.ar1 ?_); refine T3.nL (by kernel_rfl) rfl ?_; (with_reducible refine T3.ar0 ?_)
  refine T3.frTl (pre := [_, _]) (σ₁ := []) (cur_new kf (hd'.le (lit rfl))) ?_
  rintro _ P2 _ l2 hqa; refine e2x3 hqa ?_; clear hqa; rintro y cd hra hy hrb; subst hra; subst hrb
  simp only [List.cons_append, List.nil_append, List.append_nil]
  (with_reducible refine T3.aAttr ?_); refine T3.nL (by kernel_rfl) rfl ?_; refine T3.sFM (by assumption) (by (with_reducible (apply Le.ap); (focus assumption); assumption)) (by first | assumption | kernel_rfl) (by first | assumption | kernel_rfl) rfl (lit rfl) ?_; (with_reducible refine Nx.nx ?_; refine T3.ss1 ?_); refine T3.sAsg ?_ rfl rfl rfl; refine T3.nL (by kernel_rfl) rfl ?_; (with_reducible refine T3.aAttr ?_); refine T3.nL (by kernel_rfl) rfl ?_; refine T3.sFM (by assumption) (by (with_reducible (apply Le.ap); (focus assumption); assumption)) (by first | assumption | kernel_rfl) (by first | assumption | kernel_rfl) rfl (lit rfl) ?_; (with_reducible refine Nx.nx ?_; refine T3.ss1 ?_); refine T3.sAsg ?_ rfl rfl rfl; refine T3.nL (by kernel_rfl) rfl ?_; (with_reducible refine T3.aAttr ?_); refine T3.nL (by kernel_rfl) rfl ?_; refine T3.sFM (by assumption) (by (with_reducible (apply Le.ap); (focus assumption); assumption)) (by first | assumption | kernel_rfl) (by first | assumption | kernel_rfl) rfl (lit rfl) ?_; (with_reducible refine Nx.nx ?_; refine T3.ss1 ?_); refine T3.sAsg ?_ rfl rfl rfl; refine T3.cint ?_; intro _; (with_reducible refine T3.aAttr ?_); refine T3.nL (by kernel_rfl) rfl ?_; refine T3.sFM (by assumption) (by (with_reducible (apply Le.ap); (focus assumption); assumption)) (by first | assumption | kernel_rfl) (by first | assumption | kernel_rfl) rfl (lit rfl) ?_; (with_reducible refine Nx.nx ?_; refine T3.ss0 ?_)
  exact Bk.mk0 ⟨rfl, x, dx, y, cd, _, rfl, l2 _ _ hx, hy, rfl⟩
end
/-! reading a whole text -/
section
variable {c : Cx} {A : Around} {P : Vw} {σ δ : St} {T : List Nat} {tt : Tok} {dv : Value} {D : List (List Nat × Tr)} {t ta : Tr} {l1 l2 : List Nat}
theorem Gs.drop {R : Vw → St → Prop} {x : Addr × (Obj → Prop)} (h : Gs c P σ R) : Gs c P (x :: σ) R := fun τ s g => h τ s ⟨g.ok.drop, g.gens, g.os⟩
theorem read_ok (kf : KF c) (kg : KG c) (hr : Room A (t.ht + 110)) (hz : Fits T) (h1 : Rd D 0 (.row []) l1 ta) (h2 : Rd D 0 (.cho ta) l2 t) (hT : T = l1 ++ l2) (hD : DefOk c P dv D δ) (hn : need t 0 ≤ 20) (hs : t.sz ≤ 10000) :
    T3 c A (PySem.call (.ref 919) [.str (S T) tt, dv]) P δ (fun v P' σ' => Node P' v t ∧ σ' = δ) NoE := by
  let Q1 : KO Value := fun v P' σ' => Node P' v t ∧ σ' = δ
  show T3 _ _ _ _ _ Q1 _
  refine T3.post (Q₁ := fun v P' σ' => Node P' v t ∧ ∃ x1 x2, σ' = x1 :: x2 :: δ) ?_ ?_
  · refine T3.d1 kf kf.f_read_regex [(Str.ofString "definitions", dv), (Str.ofString "text", .str (S T) tt)] hr.dep rfl (fun _ _ _ _ _ _ => ⟨_, rfl, rfl⟩) (by kernel_rfl) fun L cdv => ?_
    have hd : Room (A.deeper (mkE (fdS (topS 55)) (Str.ofString "read_regex") L 919 cdv)) (t.ht + 109) := hr.deeper
    refine T3.ss1 ?_
    refine T3.sAsg ?_ rfl rfl rfl; (with_reducible refine T3.calln ?_ rfl); refine T3.nG (by assumption) (by kernel_rfl) rfl ?_; refine T3.cwC (by assumption) rfl ?_; (with_reducible refine T3.ar1 ?_); refine T3.nL (by kernel_rfl) rfl ?_; (with_reducible refine T3.ar1 ?_); refine T3.cint ?_; intro _; (with_reducible refine T3.ar1 ?_); refine T3.nL (by kernel_rfl) rfl ?_; (with_reducible refine T3.ar1 ?_; refine T3.cbool ?_; refine T3.ar0 ?_)
    refine T3.frMd (pre := [_]) (σ₁ := []) (post := δ) (reader_new (p := 0) kf (hd.le (lit rfl)) hD.hand) ?_
    rintro _ P1 _ q1 hqa; refine e5x4 hqa ?_; clear hqa; rintro R rd x cd td hra hR hx hrb; subst hra; subst hrb
    simp only [List.cons_append, List.nil_append, List.append_nil]
    (with_reducible refine T3.aName ?_); refine T3.st rfl ?_ (by kernel_rfl); (with_reducible refine Nx.nx ?_; refine T3.ss1 ?_); refine T3.sAsg ?_ rfl rfl rfl; refine T3.callm ?_ rfl rfl rfl (lit rfl); refine T3.nL (by kernel_rfl) rfl ?_; refine T3.mFM (by assumption) (by with_reducible assumption) (List.mem_cons_of_mem _ List.mem_cons_self) (by first | assumption | kernel_rfl) rfl (by kernel_rfl) rfl ?_; refine T3.cw10 (by assumption) rfl ?_
    have hlen : T.length = l1.length + l2.length := by rw [hT, List.length_append]
    refine T3.frTl (pre := [_]) (choice_ (p := 0) kf hz (single_ kf hz (l1.length + l2.length)) h1 h2 (Nat.le_refl _) (lit rfl) (hd.le (lit rfl)) hx hR (hD.le q1) ⟨[], by rw [hT]; simp⟩ (.inl (sg_none (by omega)))) ?_
    rintro _ P2 _ q2 hqa; obtain ⟨hv, hqb⟩ := hqa; refine e2x1 hqb ?_; clear hqb; rintro td2 t2 hra; subst hra
    obtain ⟨nv, rfl⟩ := hv.ref
    simp only [List.cons_append, List.nil_append, List.append_nil]
    (with_reducible refine T3.aName ?_); refine T3.st rfl ?_ (by kernel_rfl); (with_reducible refine Nx.nx ?_; refine T3.ss1 ?_; refine T3.sIf ?_; refine T3.isNot ?_); refine T3.isT rfl ?_; refine T3.callm ?_ rfl rfl rfl (lit rfl); (with_reducible refine T3.attr ?_ rfl); refine T3.nL (by kernel_rfl) rfl ?_; refine T3.gM (by assumption) (by (with_reducible (apply Le.ap); (focus assumption); assumption)) (List.mem_cons_of_mem _ List.mem_cons_self) (by first | assumption | kernel_rfl) (by kernel_rfl) rfl (by first | rfl | assumption) ?_; refine T3.mFM (by assumption) (by (with_reducible (apply Le.ap); (focus assumption); assumption)) (List.mem_cons_of_mem _ (List.mem_cons_of_mem _ List.mem_cons_self)) (by first | assumption | kernel_rfl) rfl (by kernel_rfl) rfl ?_; refine T3.cw10 (by assumption) rfl ?_
    refine T3.frAt (pre := [_, _]) (is_done_ kf (hd.le (lit rfl)) hz (le'_ hx q2)) ?_
    rintro _ P3 _ q3 ⟨rfl, rfl⟩
    simp only [List.cons_append, List.nil_append, List.append_nil]
    (with_reducible refine T3.truB ?_)
    refine no (by simp; omega) ?_
    (with_reducible refine T3.ss0 ?_; refine Nx.nx ?_; refine T3.ss1 ?_; refine T3.sIf ?_; refine T3.isCmp ?_ rfl; refine T3.calln ?_ rfl); refine T3.nG (by assumption) (by kernel_rfl) rfl ?_; refine T3.cw0 (by assumption) rfl ?_; (with_reducible refine T3.ar1 ?_); refine T3.nL (by kernel_rfl) rfl ?_; (with_reducible refine T3.ar0 ?_)
    refine T3.fr0 ((levels_ kf kg t.sz t (Nat.le_refl _) (p := 0) (tp := 0) (hd.le (by omega)) hs (hv.le q3)).2 trivial) ?_ (fun _ _ _ q => q.2)
    rintro _ P4 q4 ⟨⟨k, rfl⟩, _⟩
    refine T3.nG (by assumption) (by kernel_rfl) rfl ?_; (with_reducible refine T3.iGt ?_; refine T3.truB ?_)
    refine no (by simp; omega) ?_
    (with_reducible refine T3.ss0 ?_; refine Nx.nx ?_; refine T3.ss1 ?_; refine T3.sRet ?_); refine T3.nL (by kernel_rfl) rfl ?_; (with_reducible refine Nx.ret ?_)
    exact Bk.mk ⟨(hv.le q3).le q4, i2x1 _ _ rfl⟩
  · rintro v P1 _ q1 hqa; obtain ⟨hv, hqb⟩ := hqa; refine e2x1 hqb ?_; clear hqb; rintro x1 x2 hra; subst hra
    exact Gs.drop (Gs.drop (Gs.now ⟨hv, rfl⟩))
end
section
variable {c : Cx} {A : Around} {P : Vw} {σ δ : St} {T : List Nat} {p d : Nat} {t1 t2 td : Tok} {dv : Value} {pat : Bool} {x cd R rd a : Addr}
theorem is_over_ (kf : KF c) (hr : Room A 5) (hz : Fits T) (hx : P x = some (instObj 222 cd)) (hR : P R = some (instObj 907 rd)) (hs : sg T p = [] ∨ sg T p = [32]) :
    T3 c A (PySem.call (.ref 808) [.ref R]) P [(rd, IsF (rF x dv pat d td)), (cd, IsF (cF T t1 p t2))] (fun v P' σ' => σ' = [(rd, IsF (rF x dv pat d td)), (cd, IsF (cF T t1 p t2))] ∧ v = .bool true) NoE := by
  let Q1 : KO Value := fun v P' σ' => σ' = [(rd, IsF (rF x dv pat d td)), (cd, IsF (cF T t1 p t2))] ∧ v = .bool true
  show T3 _ _ _ _ _ Q1 _
  refine T3.d0 kf.f_RegexReader_is_over [("self", .ref R)] hr.dep (fun _ _ _ _ _ _ => by kernel_rfl) (by kernel_rfl) fun L cdv => ?_
  refine T3.ss1 ?_
  refine T3.sAsg ?_ rfl rfl rfl; refine T3.callm ?_ rfl rfl rfl (lit rfl); (with_reducible refine T3.attr ?_ rfl); refine T3.nL (by kernel_rfl) rfl ?_; refine T3.gM (by assumption) (by with_reducible assumption) (List.mem_cons_of_mem _ List.mem_cons_self) (by first | assumption | kernel_rfl) (by kernel_rfl) rfl (by first | rfl | assumption) ?_; refine T3.mFM (by assumption) (by with_reducible assumption) (List.mem_cons_of_mem _ (List.mem_cons_of_mem _ List.mem_cons_self)) (by first | assumption | kernel_rfl) rfl (by kernel_rfl) rfl ?_; refine T3.cw10 (by assumption) rfl ?_
  refine T3.frAt (pre := [_, _]) (peek0_ kf (by exact Room.le (Room.deeper (by assumption)) (lit rfl)) hz (by with_reducible assumption)) ?_
  rintro _ P1 _ l1 hqa; obtain ⟨rfl, _, rfl⟩ := hqa
  simp only [List.cons_append, List.nil_append, List.append_nil]
  rcases hs with h | h
  · rw [h]
    (with_reducible refine T3.aName ?_); refine T3.st rfl ?_ (by kernel_rfl); (with_reducible refine Nx.nx ?_; refine T3.ss1 ?_; refine T3.sRet ?_; refine T3.boolE2 ?_; refine T3.boolOr ?_; refine T3.cmp1 ?_ rfl); refine T3.nL (by kernel_rfl) rfl ?_; refine T3.cstr ?_; intro _; (with_reducible refine T3.sEq ?_; refine T3.truB ?_; refine yes rfl ?_; refine Nx.ret ?_)
    exact Bk.mk ⟨rfl, rfl⟩
  · rw [h]
    (with_reducible refine T3.aName ?_); refine T3.st rfl ?_ (by kernel_rfl); (with_reducible refine Nx.nx ?_; refine T3.ss1 ?_; refine T3.sRet ?_; refine T3.boolE2 ?_; refine T3.boolOr ?_; refine T3.cmp1 ?_ rfl); refine T3.nL (by kernel_rfl) rfl ?_; refine T3.cstr ?_; intro _; (with_reducible refine T3.sEq ?_; refine T3.truB ?_; refine no rfl ?_; refine T3.boolLast ?_; refine T3.cmp1 ?_ rfl); refine T3.nL (by kernel_rfl) rfl ?_; refine T3.nG (by assumption) (by kernel_rfl) rfl ?_; (with_reducible refine T3.sIn ?_; refine Nx.ret ?_)
    exact Bk.mk ⟨rfl, congrArg Value.bool (by kernel_rfl)⟩
theorem pat_new (kf : KF c) (hr : Room A 6) {bg : Bool} : T3 c A (PySem.call (.ref 762) [.ref a, .bool bg, .none]) P [] (fun v P' σ' => (∃ x, v = .ref x ∧ InP P' x 762 [(Str.ofString "body", .ref a), (Str.ofString "begins", .bool bg), (Str.ofString "trail", .none)]) ∧ σ' = []) NoE := by
  let Q1 : KO Value := fun v P' σ' => (∃ x, v = .ref x ∧ InP P' x 762 [(Str.ofString "body", .ref a), (Str.ofString "begins", .bool bg), (Str.ofString "trail", .none)]) ∧ σ' = []
  show T3 _ _ _ _ _ Q1 _
  refine T3.post (Q₁ := fun v P' σ' => ∃ x dx, v = .ref x ∧ P' x = some (instObj 762 dx) ∧ σ' = [(dx, IsF [(Str.ofString "body", .ref a), (Str.ofString "begins", .bool bg), (Str.ofString "trail", .none)])]) ?_ ?_
  · refine T3.new (C := 762) (fI := 738) kf (by kernel_rfl) rfl (by kernel_rfl) fun x dx P1 l1 hx => ?_
    refine C3.d0 kf.f_Pattern___init__ [("trail", .none), ("begins", .bool bg), ("body", .ref a), ("self", .ref x)] (Room.make (n := 4) hr).dep (fun _ _ _ _ _ _ => by kernel_rfl) (by kernel_rfl) fun L cdv => ?_
    refine T3.ss1 ?_
    refine T3.sAsg ?_ rfl rfl rfl; refine T3.nL (by kernel_rfl) rfl ?_; (with_reducible refine T3.aAttr ?_); refine T3.nL (by kernel_rfl) rfl ?_; refine T3.sFM (by assumption) (by with_reducible assumption) (by first | assumption | kernel_rfl) (by first | assumption | kernel_rfl) rfl (lit rfl) ?_; (with_reducible refine Nx.nx ?_; refine T3.ss1 ?_); refine T3.sAsg ?_ rfl rfl rfl; refine T3.nL (by kernel_rfl) rfl ?_; (with_reducible refine T3.aAttr ?_); refine T3.nL (by kernel_rfl) rfl ?_; refine T3.sFM (by assumption) (by with_reducible assumption) (by first | assumption | kernel_rfl) (by first | assumption | kernel_rfl) rfl (lit rfl) ?_; (with_reducible refine Nx.nx ?_; refine T3.ss1 ?_); refine T3.sAsg ?_ rfl rfl rfl; refine T3.nL (by kernel_rfl) rfl ?_; (with_reducible refine T3.aAttr ?_); refine T3.nL (by kernel_rfl) rfl ?_; refine T3.sFM (by assumption) (by with_reducible assumption) (by first | assumption | kernel_rfl) (by first | assumption | kernel_rfl) rfl (lit rfl) ?_; (with_reducible refine Nx.nx ?_; refine T3.ss0 ?_)
    exact Bk.mk0 ⟨rfl, x, dx, rfl, hx, rfl⟩
  · rintro _ P1 _ l1 hqa; refine e2x3 hqa ?_; clear hqa; rintro x dx hra hx hrb; subst hra; subst hrb
    exact Gs.freezeF (pre := []) hx fun P2 l2 hi => Gs.now ⟨⟨x, rfl, hi⟩, rfl⟩
end
/-! a fault -/
noncomputable def PosP (P : Vw) (v : Value) (p : Nat) : Prop := ∃ a t, v = .ref a ∧ ∃ t2 t3 i j, InP P a 46 [(Str.ofString "offset", .int (p : Nat) t), (Str.ofString "line", .int i t2), (Str.ofString "column", .int j t3)]
theorem PosP.le {P P' : Vw} {v : Value} {p : Nat} (q : Le P P') (h : PosP P v p) : PosP P' v p := let ⟨a, t, e, t2, t3, i, j, h⟩ := h; ⟨a, t, e, t2, t3, i, j, h.le q⟩
section
variable {c : Cx} {A : Around} {P : Vw} {σ δ : St} {E : Value → Vw → St → Prop} {Q : Value → Vw → St → Prop} {env : Env} {pos : Pos} {T : List Nat} {p d : Nat} {t1 t2 td tt tp : Tok} {dv : Value} {pat : Bool} {x cd R rd a : Addr}
theorem pos_new (kf : KF c) (hr : Room A 6) {i j : Int} {t2 t3 : Tok} : T3 c A (PySem.call (.ref 46) [.int (p : Nat) tp, .int i t2, .int j t3]) P [] (fun v P' σ' => PosP P' v p ∧ σ' = []) NoE := by
  let Q1 : KO Value := fun v P' σ' => PosP P' v p ∧ σ' = []
  show T3 _ _ _ _ _ Q1 _
  refine T3.post (Q₁ := fun v P' σ' => ∃ x dx, v = .ref x ∧ P' x = some (instObj 46 dx) ∧ σ' = [(dx, IsF [(Str.ofString "offset", .int (p : Nat) tp), (Str.ofString "line", .int i t2), (Str.ofString "column", .int j t3)])]) ?_ ?_
  · refine T3.new (C := 46) (fI := 36) kf (by kernel_rfl) rfl (by kernel_rfl) fun x dx P1 l1 hx => ?_
    refine C3.d0 kf.f_Position___init__ [("column", .int j t3), ("line", .int i t2), ("offset", .int (p : Nat) tp), ("self", .ref x)] (Room.make (n := 4) hr).dep (fun _ _ _ _ _ _ => by kernel_rfl) (by kernel_rfl) fun L cdv => ?_
    refine T3.ss1 ?_
    refine T3.sAsg ?_ rfl rfl rfl; refine T3.nL (by kernel_rfl) rfl ?_; (with_reducible refine T3.aAttr ?_); refine T3.nL (by kernel_rfl) rfl ?_; refine T3.sFM (by assumption) (by with_reducible assumption) (by first | assumption | kernel_rfl) (by first | assumption | kernel_rfl) rfl (lit rfl) ?_; (with_reducible refine Nx.nx ?_; refine T3.ss1 ?_); refine T3.sAsg ?_ rfl rfl rfl; refine T3.nL (by kernel_rfl) rfl ?_; (with_reducible refine T3.aAttr ?_); refine T3.nL (by kernel_rfl) rfl ?_; refine T3.sFM (by assumption) (by with_reducible assumption) (by first | assumption | kernel_rfl) (by first | assumption | kernel_rfl) rfl (lit rfl) ?_; (with_reducible refine Nx.nx ?_; refine T3.ss1 ?_); refine T3.sAsg ?_ rfl rfl rfl; refine T3.nL (by kernel_rfl) rfl ?_; (with_reducible refine T3.aAttr ?_); refine T3.nL (by kernel_rfl) rfl ?_; refine T3.sFM (by assumption) (by with_reducible assumption) (by first | assumption | kernel_rfl) (by first | assumption | kernel_rfl) rfl (lit rfl) ?_; (with_reducible refine Nx.nx ?_; refine T3.ss0 ?_)
    exact Bk.mk0 ⟨rfl, x, dx, rfl, hx, rfl⟩
  · rintro _ P1 _ l1 hqa; refine e2x3 hqa ?_; clear hqa; rintro x dx hra hx hrb; subst hra; subst hrb
    exact Gs.freezeF (pre := []) hx fun P2 l2 hi => Gs.now ⟨⟨x, _, rfl, _, _, _, _, hi⟩, rfl⟩
theorem position_ (kf : KF c) (hr : Room A 8) (hz : Fits T) (hp : p ≤ T.length) (hn : ∀ i, i < p → T[i]? ≠ some 10) :
    T3 c A (PySem.call (.ref 57) [.str (S T) tt, .int (p : Nat) tp]) P [] (fun v P' σ' => PosP P' v p ∧ σ' = []) NoE := by
  let Q1 : KO Value := fun v P' σ' => PosP P' v p ∧ σ' = []
  show T3 _ _ _ _ _ Q1 _
  refine T3.d0 kf.f_position_of [("offset", .int p tp), ("text", .str (S T) tt)] hr.dep (fun _ _ _ _ _ _ => by kernel_rfl) (by kernel_rfl) fun L cdv => ?_
  have hd : Room (A.deeper (mkE (fdS (topS 11)) (Str.ofString "position_of") L 57 cdv)) 7 := hr.deeper
  refine T3.ss1 ?_
  refine T3.sAsg ?_ rfl rfl rfl; (with_reducible refine T3.calln ?_ rfl); refine T3.nB (by assumption) (by kernel_rfl) (by boot_by_name) ?_; (with_reducible refine T3.cwB ?_; refine T3.ar1 ?_; refine T3.calln ?_ rfl); refine T3.nB (by assumption) (by kernel_rfl) (by boot_by_name) ?_; (with_reducible refine T3.cwB ?_; refine T3.ar1 ?_); refine T3.nL (by kernel_rfl) rfl ?_; (with_reducible refine T3.ar1 ?_); refine T3.cint ?_; intro _; (with_reducible refine T3.ar0 ?_); refine T3.iMax (Room.no (by assumption)) ?_; intro _; (with_reducible refine T3.ar1 ?_; refine T3.calln ?_ rfl); refine T3.nB (by assumption) (by kernel_rfl) (by boot_by_name) ?_; (with_reducible refine T3.cwB ?_; refine T3.ar1 ?_); refine T3.nL (by kernel_rfl) rfl ?_; (with_reducible refine T3.ar0 ?_); refine T3.sLenS (by omega) ?_; intro _; (with_reducible refine T3.ar0 ?_); refine T3.iMin (Room.no (by assumption)) ?_; intro _; (with_reducible refine T3.aName ?_); refine T3.st rfl ?_ (by kernel_rfl); (with_reducible refine Nx.nx ?_; refine T3.ss1 ?_); refine T3.sAsg ?_ rfl rfl rfl; refine T3.cint ?_; intro _; (with_reducible refine T3.aName ?_); refine T3.st rfl ?_ (by kernel_rfl); (with_reducible refine Nx.nx ?_; refine T3.ss1 ?_); refine T3.sAsg ?_ rfl rfl rfl; refine T3.cint ?_; intro _; (with_reducible refine T3.aName ?_); refine T3.st rfl ?_ (by kernel_rfl); (with_reducible refine Nx.nx ?_; refine T3.ss1 ?_); refine T3.sFor ?_ (fun _ => rfl); (with_reducible refine T3.calln ?_ rfl); refine T3.nB (by assumption) (by kernel_rfl) (by boot_by_name) ?_; (with_reducible refine T3.cwT ?_; refine T3.ar1 ?_); refine T3.nL (by kernel_rfl) rfl ?_; (with_reducible refine T3.ar0 ?_)
  have e1 : (if (0 : Int) > (p : Int) then (0 : Int) else p) = p := if_neg (by omega)
  have e2 : (if ((T.length : Nat) : Int) < (p : Int) then ((T.length : Nat) : Int) else p) = p := if_neg (by omega)
  rw [e1, e2]
  refine T3.newRa fun ra P1 l1 hra => ?_
  let I1 : Nat → Vw → St → Prop := fun i P' σ' => ∃ m k1 k2 k3, σ' = [(L, NsP m)] ∧ Has m [(Str.ofString "begun", .int 0 k1), (Str.ofString "line", .int 1 k2), (Str.ofString "at", .int p k3), (Str.ofString "text", .str (S T) tt)]
  refine T3.itRa (n := p) hra (by omega) hd.no I1 ⟨_, _, _, _, rfl, by repeat (first | exact Has.nil | refine Has.cons rfl ?_)⟩ ⟨?_, ?_⟩
  · rintro i v P2 _ l2 hi ⟨tk, rfl⟩ hqa; refine e4x2 hqa ?_; clear hqa; rintro m k1 k2 k3 hra hm; subst hra
    refine T3.forget hm ?_
    have hlt : i < T.length := by omega
    (with_reducible refine T3.aName ?_); refine T3.st rfl ?_ (by kernel_rfl); (with_reducible refine T3.ss1 ?_; refine T3.sIf ?_; refine T3.isCmp ?_ rfl); refine T3.subG ?_ (fun _ _ => rfl); refine T3.nL (by kernel_rfl) rfl ?_; refine T3.nL (by kernel_rfl) rfl ?_; (with_reducible refine T3.gStr ?_)
    refine T3.sItemS (k := i) rfl (List.getElem?_eq_getElem hlt) (by omega) fun _ => ?_
    refine T3.cstr ?_; intro _; (with_reducible refine T3.sEq ?_; refine T3.truB ?_)
    refine no (ne_beq (b := 10) fun e => hn i hi (by rw [List.getElem?_eq_getElem hlt, e])) ?_
    (with_reducible refine T3.ss0 ?_; refine Nx.nx ?_; refine T3.ss0 ?_)
    exact i4x2 _ _ _ _ rfl (by repeat (first | exact Has.nil | refine Has.cons rfl ?_))
  · rintro P2 _ l2 hqa; refine e4x2 hqa ?_; clear hqa; rintro m k1 k2 k3 hra hm; subst hra
    refine T3.forget hm ?_
    (with_reducible refine T3.ss0 ?_; refine Nx.nx ?_; refine T3.ss1 ?_; refine T3.sRet ?_; refine T3.calln ?_ rfl); refine T3.nG (by assumption) (by kernel_rfl) rfl ?_; refine T3.cwC (by assumption) rfl ?_; (with_reducible refine T3.ar1 ?_); refine T3.nL (by kernel_rfl) rfl ?_; (with_reducible refine T3.ar1 ?_); refine T3.nL (by kernel_rfl) rfl ?_; (with_reducible refine T3.ar1 ?_; refine T3.binop ?_; refine T3.binop ?_); refine T3.nL (by kernel_rfl) rfl ?_; refine T3.nL (by kernel_rfl) rfl ?_; refine T3.iSub ?_; intro _; refine T3.cint ?_; intro _; refine T3.iAdd ?_; intro _; (with_reducible refine T3.ar0 ?_)
    refine T3.fr0 (pos_new (p := p) kf (hd.le (lit rfl))) ?_ (fun _ _ _ q => q.2)
    rintro _ P3 l3 ⟨hv, _⟩
    (with_reducible refine Nx.ret ?_)
    exact Bk.mk ⟨hv, rfl⟩
end
noncomputable def atM (w v : Value) : Str → Option Value := fun y => if y = Str.ofString "at" then some v else if y = Str.ofString "what" then some w else none
section
variable {c : Cx} {A : Around} {P : Vw} {σ δ : St} {E : Value → Vw → St → Prop} {Q : Value → Vw → St → Prop} {env : Env} {pos : Pos} {T : List Nat} {p d : Nat} {t1 t2 td tt tp : Tok} {dv : Value} {pat : Bool} {x cd R rd a : Addr}
theorem T3.frS {α : Type} {t : Sem α} {x y : Addr × (Obj → Prop)} {Q₁ Q : α → Vw → St → Prop} (h : T3 c A t P [y] Q₁ NoE) (k : ∀ a P' σ', Le P P' → Q₁ a P' σ' → Q a P' (x :: (σ' ++ σ))) : T3 c A t P (y :: x :: σ) Q E :=
  T3.frame (σ₁ := [y]) (σ₂ := x :: σ) (List.Perm.refl _) h (fun σ' => x :: (σ' ++ σ)) (fun σ' => List.perm_middle) k fun _ _ _ _ z => z.elim
theorem T3.cwX (kx : KX c) {e : Expr} {rest : List Expr} (h : T3 c A (spliced (argTs (e :: rest) env)) P σ (fun vs P1 σ1 => T3 c A (PySem.call (.ref 95) vs) P1 σ1 Q E) E) : T3 c A (PySem.callWith pos (.ref 95) [] (argTs (e :: rest) env) []) P σ Q E :=
  T3.callWith (.inl kx.keep) h
theorem toolInit_ (kf : KF c) (kx : KX c) (hr : Room A 4) {w v : Value} (hw : handedIn w = true) (hv : handedIn v = true) :
    T3 c A (PySem.call (.ref 72) [.ref x, w, v]) P [(x, IsX none)] (fun r P' σ' => r = .none ∧ ∃ dx, σ' = [(x, IsX (some dx)), (dx, N1P (atM w v))]) NoE := by
  let Q1 : KO Value := fun r P' σ' => r = .none ∧ ∃ dx, σ' = [(x, IsX (some dx)), (dx, N1P (atM w v))]
  show T3 _ _ _ _ _ Q1 _
  refine T3.d1 kf kf.f_ToolError___init__ [("at", v), ("what", w), ("self", .ref x)] hr.dep rfl (fun _ _ _ _ _ _ => ⟨_, rfl, rfl⟩) (by kernel_rfl) fun L cdv => ?_
  refine T3.ss1 ?_
  refine T3.sExpr ?_ (by first | assumption | kernel_rfl) rfl; refine T3.callm ?_ rfl rfl rfl (lit rfl); refine T3.nB (by assumption) (by kernel_rfl) (by boot_by_name) ?_
  refine T3.mExc kx ?_
  (with_reducible refine T3.cwB ?_; refine T3.ar1 ?_); refine T3.nL (by kernel_rfl) rfl ?_; (with_reducible refine T3.ar1 ?_); refine T3.nL (by kernel_rfl) rfl ?_; (with_reducible refine T3.ar0 ?_)
  refine T3.excInit kx ?_
  (with_reducible refine Nx.nx ?_; refine T3.ss1 ?_); refine T3.sAsg ?_ rfl rfl rfl; refine T3.nL (by kernel_rfl) rfl ?_; (with_reducible refine T3.aAttr ?_); refine T3.nL (by kernel_rfl) rfl ?_
  refine T3.setX0 kx kx.flds.1 fun dx => ?_
  (with_reducible refine Nx.nx ?_; refine T3.ss1 ?_); refine T3.sAsg ?_ rfl rfl rfl; refine T3.nL (by kernel_rfl) rfl ?_; (with_reducible refine T3.aAttr ?_); refine T3.nL (by kernel_rfl) rfl ?_
  refine T3.setX1 kx kx.flds.2 (Within.cons _ _ Within.nil) (by decide) ?_
  (with_reducible refine Nx.nx ?_; refine T3.ss0 ?_)
  exact Bk.mk0 ⟨rfl, dx, rfl⟩
theorem failed_ (kf : KF c) (kx : KX c) (hr : Room A 12) (hz : Fits T) (hp : p ≤ T.length) (hn : ∀ i, i < p → T[i]? ≠ some 10) (hx : P x = some (instObj 222 cd)) (hR : P R = some (instObj 907 rd)) {q : Nat} {w : Str} {tw : Tok} :
    T3 c A (PySem.call (.ref 801) [.ref R, .str w tw, .int (p : Nat) tp]) P [(rd, IsF (rF x dv pat d td)), (cd, IsF (cF T t1 q t2))]
      (fun r P' σ' => ∃ e dx pv, r = .ref e ∧ σ' = [(e, IsX (some dx)), (dx, N1P (atM (.str w tw) pv)), (rd, IsF (rF x dv pat d td)), (cd, IsF (cF T t1 q t2))] ∧ PosP P' pv p) NoE := by
  let Q1 : KO Value := fun r P' σ' => ∃ e dx pv, r = .ref e ∧ σ' = [(e, IsX (some dx)), (dx, N1P (atM (.str w tw) pv)), (rd, IsF (rF x dv pat d td)), (cd, IsF (cF T t1 q t2))] ∧ PosP P' pv p
  show T3 _ _ _ _ _ Q1 _
  refine T3.d0 kf.f_RegexReader_failed [("at", .int p tp), ("what", .str w tw), ("self", .ref R)] hr.dep (fun _ _ _ _ _ _ => by kernel_rfl) (by kernel_rfl) fun L cdv => ?_
  have hd : Room (A.deeper (mkE (fdS (clsS 54 1)) (Str.ofString "RegexReader.failed") L 801 cdv)) 11 := hr.deeper
  refine T3.ss1 ?_
  (with_reducible refine T3.sRet ?_; refine T3.calln ?_ rfl); refine T3.nG (by assumption) (by kernel_rfl) rfl ?_
  refine T3.cwX kx ?_
  (with_reducible refine T3.ar1 ?_); refine T3.nL (by kernel_rfl) rfl ?_; (with_reducible refine T3.ar1 ?_; refine T3.calln ?_ rfl); refine T3.nG (by assumption) (by kernel_rfl) rfl ?_; refine T3.cw0 (by assumption) rfl ?_; (with_reducible refine T3.ar1 ?_; refine T3.attr ?_ rfl; refine T3.attr ?_ rfl); refine T3.nL (by kernel_rfl) rfl ?_; refine T3.gM (by assumption) (by with_reducible assumption) (List.mem_cons_of_mem _ List.mem_cons_self) (by first | assumption | kernel_rfl) (by kernel_rfl) rfl (by first | rfl | assumption) ?_; refine T3.gM (by assumption) (by with_reducible assumption) (List.mem_cons_of_mem _ (List.mem_cons_of_mem _ List.mem_cons_self)) (by first | assumption | kernel_rfl) (by kernel_rfl) rfl (by first | rfl | assumption) ?_; (with_reducible refine T3.ar1 ?_); refine T3.nL (by kernel_rfl) rfl ?_; (with_reducible refine T3.ar0 ?_)
  refine T3.fr0 (position_ kf (hd.le (lit rfl)) hz hp hn) ?_ (fun _ _ _ q => q.2)
  rintro pv P1 l1 ⟨hv, _⟩
  refine e2x2 (id hv) ?_; rintro pa _ hra _; subst hra
  (with_reducible refine T3.ar0 ?_)
  refine T3.newX kf kx (lit rfl) fun e P2 l2 _ => ?_
  refine T3.frS (toolInit_ kf kx (Room.le (Room.make (n := 4) (hd.le (lit rfl))) (lit rfl)) rfl rfl) ?_
  rintro _ P3 _ l3 hqa; obtain ⟨rfl, dx, rfl⟩ := hqa
  simp only [List.cons_append, List.nil_append, List.append_nil]
  refine ⟨trivial, ?_⟩
  (with_reducible refine Nx.ret ?_)
  exact Bk.mk (i3x3 e dx _ rfl rfl ((hv.le l2).le l3))
end
theorem FrIn.pre {l : List Env} {σ : St} (pre : St) (h : FrIn l σ) : FrIn l (pre ++ σ) := fun env he => let ⟨k, L, m, h1, h2⟩ := h env he; ⟨k, L, m, h1, List.mem_append_right _ h2⟩
section
variable {c : Cx} {A : Around} {P : Vw} {σ δ φs : St} {T : List Nat} {tt : Tok} {dv : Value} {D : List (List Nat × Tr)} {t ta : Tr} {l1 l2 : List Nat} {l : List Env}
/-- what a fault leaves -/
noncomputable def Fault (φs : St) (p : Nat) (e : Value) (P : Vw) (σ : St) : Prop := ∃ x dx T w pv pre, e = .ref x ∧ σ = (T, IsTb) :: (x, IsY dx T) :: (dx, N1P (atM w pv)) :: (pre ++ φs) ∧ pre.length = 2 ∧ PosP P pv p
theorem read_bad (kf : KF c) (kg : KG c) (kx : KX c) (hr : Room A (t.ht + 110)) (hz : Fits T) (h1 : Rd D 0 (.row []) l1 ta) (h2 : Rd D 0 (.cho ta) l2 t) (hT : T = l1 ++ l2) (hD : DefOk c P dv D δ) (hn : 20 < need t 0) (hs : t.sz ≤ 10000) (hfr : A.frames = some l) (hF : FrIn l φs) :
    T3 c A (PySem.call (.ref 919) [.str (S T) tt, dv]) P (δ ++ φs) (fun v P' σ' => False) (Fault (δ ++ φs) 0) := by
  refine T3.d1X kf kf.f_read_regex [(Str.ofString "definitions", dv), (Str.ofString "text", .str (S T) tt)] hr.dep hfr rfl (fun _ _ _ _ _ _ => ⟨_, rfl, rfl⟩) (by kernel_rfl) fun L cdv => ?_
  have hd : Room (A.deeper (mkE (fdS (topS 55)) (Str.ofString "read_regex") L 919 cdv)) (t.ht + 109) := hr.deeper
  refine T3.ss1 ?_
  refine T3.sAsg ?_ rfl rfl rfl; (with_reducible refine T3.calln ?_ rfl); refine T3.nG (by assumption) (by kernel_rfl) rfl ?_; refine T3.cwC (by assumption) rfl ?_; (with_reducible refine T3.ar1 ?_); refine T3.nL (by kernel_rfl) rfl ?_; (with_reducible refine T3.ar1 ?_); refine T3.cint ?_; intro _; (with_reducible refine T3.ar1 ?_); refine T3.nL (by kernel_rfl) rfl ?_; (with_reducible refine T3.ar1 ?_; refine T3.cbool ?_; refine T3.ar0 ?_)
  refine T3.frMd (pre := [_]) (σ₁ := []) (post := δ ++ φs) (reader_new (p := 0) kf (hd.le (lit rfl)) hD.hand) ?_
  rintro _ P1 _ q1 hqa; refine e5x4 hqa ?_; clear hqa; rintro R rd x cd td hra hR hx hrb; subst hra; subst hrb
  simp only [List.cons_append, List.nil_append, List.append_nil]
  (with_reducible refine T3.aName ?_); refine T3.st rfl ?_ (by kernel_rfl); (with_reducible refine Nx.nx ?_; refine T3.ss1 ?_); refine T3.sAsg ?_ rfl rfl rfl; refine T3.callm ?_ rfl rfl rfl (lit rfl); refine T3.nL (by kernel_rfl) rfl ?_; refine T3.mFM (by assumption) (by with_reducible assumption) (List.mem_cons_of_mem _ List.mem_cons_self) (by first | assumption | kernel_rfl) rfl (by kernel_rfl) rfl ?_; refine T3.cw10 (by assumption) rfl ?_
  have hlen : T.length = l1.length + l2.length := by rw [hT, List.length_append]
  refine T3.frMd (pre := [_]) (σ₁ := rs x R rd cd dv false T tt δ 0 td 0 _) (post := φs) (choice_ (p := 0) kf hz (single_ kf hz (l1.length + l2.length)) h1 h2 (Nat.le_refl _) (lit rfl) (hd.le (lit rfl)) hx hR (hD.le q1) ⟨[], by rw [hT]; simp⟩ (.inl (sg_none (by omega)))) ?_
  rintro _ P2 _ q2 hqa; obtain ⟨hv, hqb⟩ := hqa; refine e2x1 hqb ?_; clear hqb; rintro td2 t2 hra; subst hra
  obtain ⟨nv, rfl⟩ := hv.ref
  simp only [List.cons_append, List.nil_append, List.append_nil]
  (with_reducible refine T3.aName ?_); refine T3.st rfl ?_ (by kernel_rfl); (with_reducible refine Nx.nx ?_; refine T3.ss1 ?_; refine T3.sIf ?_; refine T3.isNot ?_); refine T3.isT rfl ?_; refine T3.callm ?_ rfl rfl rfl (lit rfl); (with_reducible refine T3.attr ?_ rfl); refine T3.nL (by kernel_rfl) rfl ?_; refine T3.gM (by assumption) (by (with_reducible (apply Le.ap); (focus assumption); assumption)) (List.mem_cons_of_mem _ List.mem_cons_self) (by first | assumption | kernel_rfl) (by kernel_rfl) rfl (by first | rfl | assumption) ?_; refine T3.mFM (by assumption) (by (with_reducible (apply Le.ap); (focus assumption); assumption)) (List.mem_cons_of_mem _ (List.mem_cons_of_mem _ List.mem_cons_self)) (by first | assumption | kernel_rfl) rfl (by kernel_rfl) rfl ?_; refine T3.cw10 (by assumption) rfl ?_
  refine T3.frAt (pre := [_, _]) (is_done_ kf (hd.le (lit rfl)) hz (le'_ hx q2)) ?_
  rintro _ P3 _ q3 ⟨rfl, rfl⟩
  simp only [List.cons_append, List.nil_append, List.append_nil]
  (with_reducible refine T3.truB ?_)
  refine no (by simp; omega) ?_
  (with_reducible refine T3.ss0 ?_; refine Nx.nx ?_; refine T3.ss1 ?_; refine T3.sIf ?_; refine T3.isCmp ?_ rfl; refine T3.calln ?_ rfl); refine T3.nG (by assumption) (by kernel_rfl) rfl ?_; refine T3.cw0 (by assumption) rfl ?_; (with_reducible refine T3.ar1 ?_); refine T3.nL (by kernel_rfl) rfl ?_; (with_reducible refine T3.ar0 ?_)
  refine T3.fr0 ((levels_ kf kg t.sz t (Nat.le_refl _) (p := 0) (tp := 0) (hd.le (by omega)) hs (hv.le q3)).2 trivial) ?_ (fun _ _ _ q => q.2)
  rintro _ P4 q4 ⟨⟨k, rfl⟩, _⟩
  refine T3.nG (by assumption) (by kernel_rfl) rfl ?_; (with_reducible refine T3.iGt ?_; refine T3.truB ?_)
  refine yes (by simp; omega) ?_
  (with_reducible refine T3.ss1 ?_)
  refine T3.sRaise kx hd.no ?_
  refine T3.callm ?_ rfl rfl rfl (lit rfl); refine T3.nL (by kernel_rfl) rfl ?_; refine T3.mFM (by assumption) (by (with_reducible (apply Le.ap); (focus assumption); (apply Le.ap); (focus assumption); (apply Le.ap); (focus assumption); assumption)) (List.mem_cons_of_mem _ List.mem_cons_self) (by first | assumption | kernel_rfl) rfl (by kernel_rfl) rfl ?_; refine T3.cw1 (by assumption) rfl ?_; (with_reducible refine T3.ar1 ?_); refine T3.cstr ?_; intro _; (with_reducible refine T3.ar1 ?_); refine T3.cint ?_; intro _; (with_reducible refine T3.ar0 ?_)
  refine T3.frMd (pre := [_]) (σ₁ := [_, _]) (post := δ ++ φs) (failed_ (p := 0) kf kx (hd.le (lit rfl)) hz (Nat.zero_le _) (fun i hi => absurd hi (Nat.not_lt_zero _)) (le'_ (le'_ (le'_ hx q2) q3) q4) (le'_ (le'_ (le'_ hR q2) q3) q4)) ?_
  rintro _ P5 _ q5 hqa; refine e3x3 hqa ?_; clear hqa; rintro e dx pv hra hrb hpv; subst hra; subst hrb
  simp only [List.cons_append, List.nil_append, List.append_nil]
  refine ⟨e, some dx, rfl, .tail _ (.head _), e, dx, _, _, rfl, List.Perm.swap .., ?_, fun T' => ⟨e, dx, T', _, pv, [_, _], rfl, rfl, rfl, hpv⟩⟩
  exact FrIn.pre [_, _, _] (FrIn.pre δ hF)
end
section
variable {c : Cx} {A : Around} {P : Vw} {σ δ φs : St} {T : List Nat} {tt tp : Tok} {dv : Value} {D : List (List Nat × Tr)} {t ta : Tr} {l1 l2 : List Nat} {l : List Env} {p q : Nat} {bg : Bool}
noncomputable def PatV (P : Vw) (v : Value) (bg : Bool) (t : Tr) (e : Nat) : Prop := ∃ a po b k, v = .ref a ∧ TuP P a [.ref po, .int (e : Nat) k] ∧ InP P po 762 [(Str.ofString "body", .ref b), (Str.ofString "begins", .bool bg), (Str.ofString "trail", .none)] ∧ Node P (.ref b) t
theorem PatV.le {P P' : Vw} {v : Value} {bg : Bool} {t : Tr} {e : Nat} (q : Le P P') (h : PatV P v bg t e) : PatV P' v bg t e := let ⟨a, po, b, k, h1, h2, h3, h4⟩ := h; ⟨a, po, b, k, h1, h2.le q, h3.le q, h4.le q⟩
theorem pattern_ok (kf : KF c) (kg : KG c) (hr : Room A (t.ht + 110)) (hz : Fits T) (h1 : Rd D 0 (.row []) l1 ta) (h2 : Rd D 0 (.cho ta) l2 t) (hbg : (sg T p == [94]) = bg) (hq : (if bg = true then p + 1 else p) = q) (hat : At T q (l1 ++ l2)) (hne : 0 < l1.length + l2.length) (hend : sg T (q + (l1.length + l2.length)) = [32]) (hD : DefOk c P dv D δ) (hs : t.sz ≤ 10000) (hn : need t 0 ≤ 20) :
    T3 c A (PySem.call (.ref 927) [.str (S T) tt, .int (p : Nat) tp, dv]) P δ (fun v P' σ' => PatV P' v bg t (q + (l1.length + l2.length)) ∧ σ' = δ) NoE := by
 let Q1 : KO Value := fun v P' σ' => PatV P' v bg t (q + (l1.length + l2.length)) ∧ σ' = δ
 show T3 _ _ _ _ _ Q1 _
 refine T3.post (Q₁ := fun v P' σ' => PatV P' v bg t (q + (l1.length + l2.length)) ∧ ∃ x1 x2, σ' = x1 :: x2 :: δ) ?_ ?_
 ·
   refine T3.d1 kf kf.f_read_pattern [(Str.ofString "definitions", dv), (Str.ofString "at", .int (p : Nat) tp), (Str.ofString "text", .str (S T) tt)] hr.dep rfl (fun _ _ _ _ _ _ => ⟨_, rfl, rfl⟩) (by kernel_rfl) fun L cdv => ?_
   have hd : Room (A.deeper (mkE (fdS (topS 56)) (Str.ofString "read_pattern") L 927 cdv)) (t.ht + 109) := hr.deeper
   refine T3.ss1 ?_
   refine T3.sAsg ?_ rfl rfl rfl; (with_reducible refine T3.calln ?_ rfl); refine T3.nG (by assumption) (by kernel_rfl) rfl ?_; refine T3.cwC (by assumption) rfl ?_; (with_reducible refine T3.ar1 ?_); refine T3.nL (by kernel_rfl) rfl ?_; (with_reducible refine T3.ar1 ?_); refine T3.nL (by kernel_rfl) rfl ?_; (with_reducible refine T3.ar1 ?_); refine T3.nL (by kernel_rfl) rfl ?_; (with_reducible refine T3.ar1 ?_; refine T3.cbool ?_; refine T3.ar0 ?_)
   refine T3.frMd (pre := [_]) (σ₁ := []) (post := δ) (reader_new (p := p) kf (hd.le (lit rfl)) hD.hand) ?_
   rintro _ P1 _ q1 hqa; refine e5x4 hqa ?_; clear hqa; rintro R rd x cd td hra hR hx hrb; subst hra; subst hrb
   simp only [List.cons_append, List.nil_append, List.append_nil]
   (with_reducible refine T3.aName ?_); refine T3.st rfl ?_ (by kernel_rfl); (with_reducible refine Nx.nx ?_; refine T3.ss1 ?_); refine T3.sAsg ?_ rfl rfl rfl; (with_reducible refine T3.attr ?_ rfl); refine T3.nL (by kernel_rfl) rfl ?_; refine T3.gM (by assumption) (by with_reducible assumption) (List.mem_cons_of_mem _ List.mem_cons_self) (by first | assumption | kernel_rfl) (by kernel_rfl) rfl (by first | rfl | assumption) ?_; (with_reducible refine T3.aName ?_); refine T3.st rfl ?_ (by kernel_rfl); (with_reducible refine Nx.nx ?_; refine T3.ss1 ?_); refine T3.sAsg ?_ rfl rfl rfl; refine T3.callm ?_ rfl rfl rfl (lit rfl); refine T3.nL (by kernel_rfl) rfl ?_; refine T3.mFM (by assumption) (by with_reducible assumption) (List.mem_cons_of_mem _ (List.mem_cons_of_mem _ List.mem_cons_self)) (by first | assumption | kernel_rfl) rfl (by kernel_rfl) rfl ?_; refine T3.cw1 (by assumption) rfl ?_; (with_reducible refine T3.ar1 ?_); refine T3.cstr ?_; intro _; (with_reducible refine T3.ar0 ?_)
   rw [show Str.ofString "^" = S [94] from rfl]
   refine T3.frAt (pre := [_, _]) (skip_ (w := [94]) kf (hd.le (lit rfl)) hz hx (by decide)) ?_
   rintro _ P2 _ q2 hqa; obtain ⟨rfl, t3, rfl⟩ := hqa
   simp only [List.cons_append, List.nil_append, List.append_nil]
   rw [atW_one, hbg, show (if bg = true then p + [94].length else p) = q from hq]
   (with_reducible refine T3.aName ?_); refine T3.st rfl ?_ (by kernel_rfl); (with_reducible refine Nx.nx ?_; refine T3.ss1 ?_); refine T3.sAsg ?_ rfl rfl rfl; (with_reducible refine T3.attr ?_ rfl); refine T3.nL (by kernel_rfl) rfl ?_; refine T3.gM (by assumption) (by (with_reducible (apply Le.ap); (focus assumption); assumption)) (List.mem_cons_of_mem _ (List.mem_cons_of_mem _ List.mem_cons_self)) (by first | assumption | kernel_rfl) (by kernel_rfl) rfl (by first | rfl | assumption) ?_; (with_reducible refine T3.aName ?_); refine T3.st rfl ?_ (by kernel_rfl); (with_reducible refine Nx.nx ?_; refine T3.ss1 ?_); refine T3.sAsg ?_ rfl rfl rfl; refine T3.callm ?_ rfl rfl rfl (lit rfl); refine T3.nL (by kernel_rfl) rfl ?_; refine T3.mFM (by assumption) (by (with_reducible (apply Le.ap); (focus assumption); assumption)) (List.mem_cons_of_mem _ List.mem_cons_self) (by first | assumption | kernel_rfl) rfl (by kernel_rfl) rfl ?_; refine T3.cw10 (by assumption) rfl ?_
   have hx2 := le'_ hx q2
   have hR2 := le'_ hR q2
   refine T3.frTl (pre := [_]) (choice_ (p := q) kf hz (single_ kf hz (l1.length + l2.length)) h1 h2 (Nat.le_refl _) (lit rfl) (hd.le (lit rfl)) hx2 hR2 ((hD.le q1).le q2) hat (.inr (.inr ⟨rfl, hend⟩))) ?_
   rintro _ P3 _ q3 hqa; obtain ⟨hv, hqb⟩ := hqa; refine e2x1 hqb ?_; clear hqb; rintro td2 t2 hra; subst hra
   obtain ⟨nv, rfl⟩ := hv.ref
   simp only [List.cons_append, List.nil_append, List.append_nil]
   (with_reducible refine T3.aName ?_); refine T3.st rfl ?_ (by kernel_rfl); (with_reducible refine Nx.nx ?_; refine T3.ss1 ?_; refine T3.sIf ?_; refine T3.isCmp ?_ rfl; refine T3.attr ?_ rfl); refine T3.nL (by kernel_rfl) rfl ?_; refine T3.gM (by assumption) (by (with_reducible (apply Le.ap); (focus assumption); assumption)) (List.mem_cons_of_mem _ (List.mem_cons_of_mem _ List.mem_cons_self)) (by first | assumption | kernel_rfl) (by kernel_rfl) rfl (by first | rfl | assumption) ?_; refine T3.nL (by kernel_rfl) rfl ?_; (with_reducible refine T3.iEq ?_; refine T3.truB ?_)
   refine no (by simp; omega) ?_
   (with_reducible refine T3.ss0 ?_; refine Nx.nx ?_; refine T3.ss1 ?_); refine T3.sAsg ?_ rfl rfl rfl; (with_reducible refine T3.cnone ?_; refine T3.aName ?_); refine T3.st rfl ?_ (by kernel_rfl); (with_reducible refine Nx.nx ?_; refine T3.ss1 ?_); refine T3.sAsg ?_ rfl rfl rfl; (with_reducible refine T3.attr ?_ rfl); refine T3.nL (by kernel_rfl) rfl ?_; refine T3.gM (by assumption) (by (with_reducible (apply Le.ap); (focus assumption); assumption)) (List.mem_cons_of_mem _ (List.mem_cons_of_mem _ List.mem_cons_self)) (by first | assumption | kernel_rfl) (by kernel_rfl) rfl (by first | rfl | assumption) ?_; (with_reducible refine T3.aName ?_); refine T3.st rfl ?_ (by kernel_rfl); (with_reducible refine Nx.nx ?_; refine T3.ss1 ?_; refine T3.sIf ?_); refine T3.isT rfl ?_; refine T3.callm ?_ rfl rfl rfl (lit rfl); refine T3.nL (by kernel_rfl) rfl ?_; refine T3.mFM (by assumption) (by (with_reducible (apply Le.ap); (focus assumption); assumption)) (List.mem_cons_of_mem _ (List.mem_cons_of_mem _ List.mem_cons_self)) (by first | assumption | kernel_rfl) rfl (by kernel_rfl) rfl ?_; refine T3.cw1 (by assumption) rfl ?_; (with_reducible refine T3.ar1 ?_); refine T3.cstr ?_; intro _; (with_reducible refine T3.ar0 ?_)
   rw [show Str.ofString "/" = S [47] from rfl]
   have hx3 := le'_ hx2 q3
   have hR3 := le'_ hR2 q3
   refine T3.frAt (pre := [_, _]) (skip_ (w := [47]) kf (hd.le (lit rfl)) hz hx3 (by decide)) ?_
   rintro _ P4 _ q4 hqa; obtain ⟨rfl, t4, rfl⟩ := hqa
   simp only [List.cons_append, List.nil_append, List.append_nil]
   rw [atW_one]
   (with_reducible refine T3.truB ?_)
   rw [hend]
   refine no (by decide) ?_
   rw [if_neg (by decide)]
   (with_reducible refine T3.ss0 ?_; refine Nx.nx ?_; refine T3.ss1 ?_); refine T3.sAsg ?_ rfl rfl rfl; (with_reducible refine T3.attr ?_ rfl); refine T3.nL (by kernel_rfl) rfl ?_; refine T3.gM (by assumption) (by (with_reducible (apply Le.ap); (focus assumption); assumption)) (List.mem_cons_of_mem _ (List.mem_cons_of_mem _ List.mem_cons_self)) (by first | assumption | kernel_rfl) (by kernel_rfl) rfl (by first | rfl | assumption) ?_; (with_reducible refine T3.aName ?_); refine T3.st rfl ?_ (by kernel_rfl); (with_reducible refine Nx.nx ?_; refine T3.ss1 ?_; refine T3.sIf ?_); refine T3.isT rfl ?_; refine T3.callm ?_ rfl rfl rfl (lit rfl); refine T3.nL (by kernel_rfl) rfl ?_; refine T3.mFM (by assumption) (by (with_reducible (apply Le.ap); (focus assumption); assumption)) (List.mem_cons_of_mem _ (List.mem_cons_of_mem _ List.mem_cons_self)) (by first | assumption | kernel_rfl) rfl (by kernel_rfl) rfl ?_; refine T3.cw1 (by assumption) rfl ?_; (with_reducible refine T3.ar1 ?_); refine T3.cstr ?_; intro _; (with_reducible refine T3.ar0 ?_)
   rw [show Str.ofString "$" = S [36] from rfl]
   refine T3.frAt (pre := [_, _]) (skip_ (w := [36]) kf (hd.le (lit rfl)) hz (le'_ hx3 q4) (by decide)) ?_
   rintro _ P5 _ q5 hqa; obtain ⟨rfl, t5, rfl⟩ := hqa
   simp only [List.cons_append, List.nil_append, List.append_nil]
   rw [atW_one]
   (with_reducible refine T3.truB ?_)
   rw [hend]
   refine no (by decide) ?_
   rw [if_neg (by decide)]
   (with_reducible refine T3.ss0 ?_; refine Nx.nx ?_; refine T3.ss1 ?_; refine T3.sIf ?_; refine T3.isNot ?_); refine T3.isT rfl ?_; refine T3.callm ?_ rfl rfl rfl (lit rfl); refine T3.nL (by kernel_rfl) rfl ?_; refine T3.mFM (by assumption) (by (with_reducible (apply Le.ap); (focus assumption); (apply Le.ap); (focus assumption); assumption)) (List.mem_cons_of_mem _ List.mem_cons_self) (by first | assumption | kernel_rfl) rfl (by kernel_rfl) rfl ?_; refine T3.cw10 (by assumption) rfl ?_
   refine T3.frMd (pre := [_]) (σ₁ := [_, _]) (post := δ) (is_over_ kf (hd.le (lit rfl)) hz (le'_ (le'_ hx3 q4) q5) (le'_ (le'_ hR3 q4) q5) (.inr hend)) ?_
   rintro _ P6 _ q6 ⟨rfl, rfl⟩
   simp only [List.cons_append, List.nil_append, List.append_nil]
   (with_reducible refine T3.truB ?_; refine no rfl ?_; refine T3.ss0 ?_; refine Nx.nx ?_; refine T3.ss1 ?_; refine T3.sIf ?_; refine T3.isBool ?_; refine T3.or1 ?_; refine T3.isCmp ?_ rfl; refine T3.calln ?_ rfl); refine T3.nG (by assumption) (by kernel_rfl) rfl ?_; refine T3.cw0 (by assumption) rfl ?_; (with_reducible refine T3.ar1 ?_); refine T3.nL (by kernel_rfl) rfl ?_; (with_reducible refine T3.ar0 ?_)
   refine T3.fr0 ((levels_ kf kg t.sz t (Nat.le_refl _) (p := 0) (tp := 0) (hd.le (by omega)) hs (((hv.le q4).le q5).le q6)).2 trivial) ?_ (fun _ _ _ q => q.2)
   rintro _ P7 q7 ⟨⟨k, rfl⟩, _⟩
   refine T3.nG (by assumption) (by kernel_rfl) rfl ?_; (with_reducible refine T3.iGt ?_; refine T3.truB ?_)
   refine no (by simp; omega) ?_
   (with_reducible refine T3.or1 ?_; refine T3.isBool ?_; refine T3.and1 ?_; refine T3.isCmp ?_ rfl); refine T3.nL (by kernel_rfl) rfl ?_; (with_reducible refine T3.cnone ?_; refine T3.isntNN ?_; refine T3.truB ?_; refine no rfl ?_; refine no rfl ?_; refine T3.or0 ?_; refine no rfl ?_; refine T3.ss0 ?_; refine Nx.nx ?_; refine T3.ss1 ?_; refine T3.sRet ?_; refine T3.tup ?_ rfl; refine T3.ar1 ?_; refine T3.calln ?_ rfl); refine T3.nG (by assumption) (by kernel_rfl) rfl ?_; refine T3.cwC (by assumption) rfl ?_; (with_reducible refine T3.ar1 ?_); refine T3.nL (by kernel_rfl) rfl ?_; (with_reducible refine T3.ar1 ?_); refine T3.nL (by kernel_rfl) rfl ?_; (with_reducible refine T3.ar1 ?_); refine T3.nL (by kernel_rfl) rfl ?_; (with_reducible refine T3.ar0 ?_)
   refine T3.fr0 (pat_new kf (hd.le (lit rfl))) ?_ (fun _ _ _ q => q.2)
   rintro _ P8 q8 hqa; obtain ⟨hqb, _⟩ := hqa; refine e1x2 hqb ?_; clear hqb; rintro po hra hpo; subst hra
   (with_reducible refine T3.ar1 ?_; refine T3.attr ?_ rfl); refine T3.nL (by kernel_rfl) rfl ?_; refine T3.gM (by assumption) (by (with_reducible (apply Le.ap); (focus assumption); (apply Le.ap); (focus assumption); (apply Le.ap); (focus assumption); (apply Le.ap); (focus assumption); (apply Le.ap); (focus assumption); assumption)) (List.mem_cons_of_mem _ (List.mem_cons_of_mem _ List.mem_cons_self)) (by first | assumption | kernel_rfl) (by kernel_rfl) rfl (by first | rfl | assumption) ?_; (with_reducible refine T3.ar0 ?_); refine T3.newTu (lit rfl) ?_; intro _ _ _ _; (with_reducible refine Nx.ret ?_)
   exact Bk.mk ⟨⟨_, po, nv, _, rfl, by assumption, by (with_reducible (apply InP.le); (focus assumption); assumption), by (with_reducible (apply Node.le); (focus assumption); (apply Node.le); (focus assumption); (apply Node.le); (focus assumption); (apply Node.le); (focus assumption); (apply Node.le); (focus assumption); (apply Node.le); (focus assumption); assumption)⟩, i2x1 _ _ rfl⟩
 
 · rintro v P1 _ q1 hqa; obtain ⟨hv, hqb⟩ := hqa; refine e2x1 hqb ?_; clear hqb; rintro x1 x2 hra; subst hra
   exact Gs.drop (Gs.drop (Gs.now ⟨hv, rfl⟩))
theorem pattern_bad (kf : KF c) (kg : KG c) (kx : KX c) (hr : Room A (t.ht + 110)) (hz : Fits T) (h1 : Rd D 0 (.row []) l1 ta) (h2 : Rd D 0 (.cho ta) l2 t) (hbg : (sg T p == [94]) = bg) (hq : (if bg = true then p + 1 else p) = q) (hat : At T q (l1 ++ l2)) (hne : 0 < l1.length + l2.length) (hend : sg T (q + (l1.length + l2.length)) = [32]) (hD : DefOk c P dv D δ) (hs : t.sz ≤ 10000) (hn : 20 < need t 0) (hp : p ≤ T.length) (hnl : ∀ i, i < p → T[i]? ≠ some 10) (hfr : A.frames = some l) (hF : FrIn l φs) :
    T3 c A (PySem.call (.ref 927) [.str (S T) tt, .int (p : Nat) tp, dv]) P (δ ++ φs) (fun v P' σ' => False) (Fault (δ ++ φs) p) := by
  refine T3.d1X kf kf.f_read_pattern [(Str.ofString "definitions", dv), (Str.ofString "at", .int (p : Nat) tp), (Str.ofString "text", .str (S T) tt)] hr.dep hfr rfl (fun _ _ _ _ _ _ => ⟨_, rfl, rfl⟩) (by kernel_rfl) fun L cdv => ?_
  have hd : Room (A.deeper (mkE (fdS (topS 56)) (Str.ofString "read_pattern") L 927 cdv)) (t.ht + 109) := hr.deeper
  refine T3.ss1 ?_
  refine T3.sAsg ?_ rfl rfl rfl; (with_reducible refine T3.calln ?_ rfl); refine T3.nG (by assumption) (by kernel_rfl) rfl ?_; refine T3.cwC (by assumption) rfl ?_; (with_reducible refine T3.ar1 ?_); refine T3.nL (by kernel_rfl) rfl ?_; (with_reducible refine T3.ar1 ?_); refine T3.nL (by kernel_rfl) rfl ?_; (with_reducible refine T3.ar1 ?_); refine T3.nL (by kernel_rfl) rfl ?_; (with_reducible refine T3.ar1 ?_; refine T3.cbool ?_; refine T3.ar0 ?_)
  refine T3.frMd (pre := [_]) (σ₁ := []) (post := δ ++ φs) (reader_new (p := p) kf (hd.le (lit rfl)) hD.hand) ?_
  rintro _ P1 _ q1 hqa; refine e5x4 hqa ?_; clear hqa; rintro R rd x cd td hra hR hx hrb; subst hra; subst hrb
  simp only [List.cons_append, List.nil_append, List.append_nil]
  (with_reducible refine T3.aName ?_); refine T3.st rfl ?_ (by kernel_rfl); (with_reducible refine Nx.nx ?_; refine T3.ss1 ?_); refine T3.sAsg ?_ rfl rfl rfl; (with_reducible refine T3.attr ?_ rfl); refine T3.nL (by kernel_rfl) rfl ?_; refine T3.gM (by assumption) (by with_reducible assumption) (List.mem_cons_of_mem _ List.mem_cons_self) (by first | assumption | kernel_rfl) (by kernel_rfl) rfl (by first | rfl | assumption) ?_; (with_reducible refine T3.aName ?_); refine T3.st rfl ?_ (by kernel_rfl); (with_reducible refine Nx.nx ?_; refine T3.ss1 ?_); refine T3.sAsg ?_ rfl rfl rfl; refine T3.callm ?_ rfl rfl rfl (lit rfl); refine T3.nL (by kernel_rfl) rfl ?_; refine T3.mFM (by assumption) (by with_reducible assumption) (List.mem_cons_of_mem _ (List.mem_cons_of_mem _ List.mem_cons_self)) (by first | assumption | kernel_rfl) rfl (by kernel_rfl) rfl ?_; refine T3.cw1 (by assumption) rfl ?_; (with_reducible refine T3.ar1 ?_); refine T3.cstr ?_; intro _; (with_reducible refine T3.ar0 ?_)
  rw [show Str.ofString "^" = S [94] from rfl]
  refine T3.frAt (pre := [_, _]) (skip_ (w := [94]) kf (hd.le (lit rfl)) hz hx (by decide)) ?_
  rintro _ P2 _ q2 hqa; obtain ⟨rfl, t3, rfl⟩ := hqa
  simp only [List.cons_append, List.nil_append, List.append_nil]
  rw [atW_one, hbg, show (if bg = true then p + [94].length else p) = q from hq]
  (with_reducible refine T3.aName ?_); refine T3.st rfl ?_ (by kernel_rfl); (with_reducible refine Nx.nx ?_; refine T3.ss1 ?_); refine T3.sAsg ?_ rfl rfl rfl; (with_reducible refine T3.attr ?_ rfl); refine T3.nL (by kernel_rfl) rfl ?_; refine T3.gM (by assumption) (by (with_reducible (apply Le.ap); (focus assumption); assumption)) (List.mem_cons_of_mem _ (List.mem_cons_of_mem _ List.mem_cons_self)) (by first | assumption | kernel_rfl) (by kernel_rfl) rfl (by first | rfl | assumption) ?_; (with_reducible refine T3.aName ?_); refine T3.st rfl ?_ (by kernel_rfl); (with_reducible refine Nx.nx ?_; refine T3.ss1 ?_); refine T3.sAsg ?_ rfl rfl rfl; refine T3.callm ?_ rfl rfl rfl (lit rfl); refine T3.nL (by kernel_rfl) rfl ?_; refine T3.mFM (by assumption) (by (with_reducible (apply Le.ap); (focus assumption); assumption)) (List.mem_cons_of_mem _ List.mem_cons_self) (by first | assumption | kernel_rfl) rfl (by kernel_rfl) rfl ?_; refine T3.cw10 (by assumption) rfl ?_
  have hx2 := le'_ hx q2
  have hR2 := le'_ hR q2
  refine T3.frMd (pre := [_]) (σ₁ := rs x R rd cd dv true T tt δ 0 td q _) (post := φs) (choice_ (p := q) kf hz (single_ kf hz (l1.length + l2.length)) h1 h2 (Nat.le_refl _) (lit rfl) (hd.le (lit rfl)) hx2 hR2 ((hD.le q1).le q2) hat (.inr (.inr ⟨rfl, hend⟩))) ?_
  rintro _ P3 _ q3 hqa; obtain ⟨hv, hqb⟩ := hqa; refine e2x1 hqb ?_; clear hqb; rintro td2 t2 hra; subst hra
  obtain ⟨nv, rfl⟩ := hv.ref
  simp only [List.cons_append, List.nil_append, List.append_nil]
  (with_reducible refine T3.aName ?_); refine T3.st rfl ?_ (by kernel_rfl); (with_reducible refine Nx.nx ?_; refine T3.ss1 ?_; refine T3.sIf ?_; refine T3.isCmp ?_ rfl; refine T3.attr ?_ rfl); refine T3.nL (by kernel_rfl) rfl ?_; refine T3.gM (by assumption) (by (with_reducible (apply Le.ap); (focus assumption); assumption)) (List.mem_cons_of_mem _ (List.mem_cons_of_mem _ List.mem_cons_self)) (by first | assumption | kernel_rfl) (by kernel_rfl) rfl (by first | rfl | assumption) ?_; refine T3.nL (by kernel_rfl) rfl ?_; (with_reducible refine T3.iEq ?_; refine T3.truB ?_)
  refine no (by simp; omega) ?_
  (with_reducible refine T3.ss0 ?_; refine Nx.nx ?_; refine T3.ss1 ?_); refine T3.sAsg ?_ rfl rfl rfl; (with_reducible refine T3.cnone ?_; refine T3.aName ?_); refine T3.st rfl ?_ (by kernel_rfl); (with_reducible refine Nx.nx ?_; refine T3.ss1 ?_); refine T3.sAsg ?_ rfl rfl rfl; (with_reducible refine T3.attr ?_ rfl); refine T3.nL (by kernel_rfl) rfl ?_; refine T3.gM (by assumption) (by (with_reducible (apply Le.ap); (focus assumption); assumption)) (List.mem_cons_of_mem _ (List.mem_cons_of_mem _ List.mem_cons_self)) (by first | assumption | kernel_rfl) (by kernel_rfl) rfl (by first | rfl | assumption) ?_; (with_reducible refine T3.aName ?_); refine T3.st rfl ?_ (by kernel_rfl); (with_reducible refine Nx.nx ?_; refine T3.ss1 ?_; refine T3.sIf ?_); refine T3.isT rfl ?_; refine T3.callm ?_ rfl rfl rfl (lit rfl); refine T3.nL (by kernel_rfl) rfl ?_; refine T3.mFM (by assumption) (by (with_reducible (apply Le.ap); (focus assumption); assumption)) (List.mem_cons_of_mem _ (List.mem_cons_of_mem _ List.mem_cons_self)) (by first | assumption | kernel_rfl) rfl (by kernel_rfl) rfl ?_; refine T3.cw1 (by assumption) rfl ?_; (with_reducible refine T3.ar1 ?_); refine T3.cstr ?_; intro _; (with_reducible refine T3.ar0 ?_)
  rw [show Str.ofString "/" = S [47] from rfl]
  have hx3 := le'_ hx2 q3
  have hR3 := le'_ hR2 q3
  refine T3.frAt (pre := [_, _]) (skip_ (w := [47]) kf (hd.le (lit rfl)) hz hx3 (by decide)) ?_
  rintro _ P4 _ q4 hqa; obtain ⟨rfl, t4, rfl⟩ := hqa
  simp only [List.cons_append, List.nil_append, List.append_nil]
  rw [atW_one]
  (with_reducible refine T3.truB ?_)
  rw [hend]
  refine no (by decide) ?_
  rw [if_neg (by decide)]
  (with_reducible refine T3.ss0 ?_; refine Nx.nx ?_; refine T3.ss1 ?_); refine T3.sAsg ?_ rfl rfl rfl; (with_reducible refine T3.attr ?_ rfl); refine T3.nL (by kernel_rfl) rfl ?_; refine T3.gM (by assumption) (by (with_reducible (apply Le.ap); (focus assumption); assumption)) (List.mem_cons_of_mem _ (List.mem_cons_of_mem _ List.mem_cons_self)) (by first | assumption | kernel_rfl) (by kernel_rfl) rfl (by first | rfl | assumption) ?_; (with_reducible refine T3.aName ?_); refine T3.st rfl ?_ (by kernel_rfl); (with_reducible refine Nx.nx ?_; refine T3.ss1 ?_; refine T3.sIf ?_); refine T3.isT rfl ?_; refine T3.callm ?_ rfl rfl rfl (lit rfl); refine T3.nL (by kernel_rfl) rfl ?_; refine T3.mFM (by assumption) (by (with_reducible (apply Le.ap); (focus assumption); assumption)) (List.mem_cons_of_mem _ (List.mem_cons_of_mem _ List.mem_cons_self)) (by first | assumption | kernel_rfl) rfl (by kernel_rfl) rfl ?_; refine T3.cw1 (by assumption) rfl ?_; (with_reducible refine T3.ar1 ?_); refine T3.cstr ?_; intro _; (with_reducible refine T3.ar0 ?_)
  rw [show Str.ofString "$" = S [36] from rfl]
  refine T3.frAt (pre := [_, _]) (skip_ (w := [36]) kf (hd.le (lit rfl)) hz (le'_ hx3 q4) (by decide)) ?_
  rintro _ P5 _ q5 hqa; obtain ⟨rfl, t5, rfl⟩ := hqa
  simp only [List.cons_append, List.nil_append, List.append_nil]
  rw [atW_one]
  (with_reducible refine T3.truB ?_)
  rw [hend]
  refine no (by decide) ?_
  rw [if_neg (by decide)]
  (with_reducible refine T3.ss0 ?_; refine Nx.nx ?_; refine T3.ss1 ?_; refine T3.sIf ?_; refine T3.isNot ?_); refine T3.isT rfl ?_; refine T3.callm ?_ rfl rfl rfl (lit rfl); refine T3.nL (by kernel_rfl) rfl ?_; refine T3.mFM (by assumption) (by (with_reducible (apply Le.ap); (focus assumption); (apply Le.ap); (focus assumption); assumption)) (List.mem_cons_of_mem _ List.mem_cons_self) (by first | assumption | kernel_rfl) rfl (by kernel_rfl) rfl ?_; refine T3.cw10 (by assumption) rfl ?_
  refine T3.frMd (pre := [_]) (σ₁ := [_, _]) (post := δ ++ φs) (is_over_ kf (hd.le (lit rfl)) hz (le'_ (le'_ hx3 q4) q5) (le'_ (le'_ hR3 q4) q5) (.inr hend)) ?_
  rintro _ P6 _ q6 ⟨rfl, rfl⟩
  simp only [List.cons_append, List.nil_append, List.append_nil]
  (with_reducible refine T3.truB ?_; refine no rfl ?_; refine T3.ss0 ?_; refine Nx.nx ?_; refine T3.ss1 ?_; refine T3.sIf ?_; refine T3.isBool ?_; refine T3.or1 ?_; refine T3.isCmp ?_ rfl; refine T3.calln ?_ rfl); refine T3.nG (by assumption) (by kernel_rfl) rfl ?_; refine T3.cw0 (by assumption) rfl ?_; (with_reducible refine T3.ar1 ?_); refine T3.nL (by kernel_rfl) rfl ?_; (with_reducible refine T3.ar0 ?_)
  refine T3.fr0 ((levels_ kf kg t.sz t (Nat.le_refl _) (p := 0) (tp := 0) (hd.le (by omega)) hs (((hv.le q4).le q5).le q6)).2 trivial) ?_ (fun _ _ _ q => q.2)
  rintro _ P7 q7 ⟨⟨k, rfl⟩, _⟩
  refine T3.nG (by assumption) (by kernel_rfl) rfl ?_; (with_reducible refine T3.iGt ?_; refine T3.truB ?_)
  refine yes (by simp; omega) ?_
  (with_reducible refine yes rfl ?_; refine T3.ss1 ?_)
  refine T3.sRaise kx hd.no ?_
  refine T3.callm ?_ rfl rfl rfl (lit rfl); refine T3.nL (by kernel_rfl) rfl ?_; refine T3.mFM (by assumption) (by (with_reducible (apply Le.ap); (focus assumption); (apply Le.ap); (focus assumption); (apply Le.ap); (focus assumption); (apply Le.ap); (focus assumption); assumption)) (List.mem_cons_of_mem _ List.mem_cons_self) (by first | assumption | kernel_rfl) rfl (by kernel_rfl) rfl ?_; refine T3.cw1 (by assumption) rfl ?_; (with_reducible refine T3.ar1 ?_); refine T3.cstr ?_; intro _; (with_reducible refine T3.ar1 ?_); refine T3.nL (by kernel_rfl) rfl ?_; (with_reducible refine T3.ar0 ?_)
  refine T3.frMd (pre := [_]) (σ₁ := [_, _]) (post := δ ++ φs) (failed_ (p := p) kf kx (hd.le (lit rfl)) hz hp hnl (le'_ (le'_ (le'_ (le'_ hx3 q4) q5) q6) q7) (le'_ (le'_ (le'_ (le'_ hR3 q4) q5) q6) q7)) ?_
  rintro _ P8 _ q8 hqa; refine e3x3 hqa ?_; clear hqa; rintro e dx pv hra hrb hpv; subst hra; subst hrb
  simp only [List.cons_append, List.nil_append, List.append_nil]
  refine ⟨e, some dx, rfl, .tail _ (.head _), e, dx, _, _, rfl, List.Perm.swap .., ?_, fun T' => ⟨e, dx, T', _, pv, [_, _], rfl, rfl, rfl, hpv⟩⟩
  exact FrIn.pre [_, _, _] (FrIn.pre δ hF)
end
section
variable {c : Cx} {A : Around} {P : Vw} {σ δ φs : St} {E : Value → Vw → St → Prop} {Q : Value → Vw → St → Prop} {env : Env} {pos : Pos} {T : List Nat} {tt tp : Tok} {dv : Value} {D : List (List Nat × Tr)} {t ta : Tr} {l1 l2 : List Nat} {l : List Env} {p q : Nat} {bg : Bool} {x dx U : Addr} {n : Str} {v : Value}
theorem T3.gX (kx : KX c) {m : Str → Option Value} {b : Bool} (hx : (x, IsY dx U) ∈ σ) (hd : (dx, N1P m) ∈ σ) (ht : findIn c.K (.ref 95) n = some none) (hm : m n = some v) (hv : handedIn v = true) (h : Q v P σ) : T3 c A (getAttr (.ref x) n b) P σ Q E := fun τ s g => by
  obtain ⟨⟨o, ho, hc, hdi, vs, hf, _⟩, _⟩ := g.ok.mu _ hx
  obtain ⟨⟨od, hod, es, ep, hd', hk, _, hl⟩, _⟩ := g.ok.mu _ hd
  have I : InstAt s.heap x o 95 (some od) := instX (τ := τ) ho hc ⟨vs, hf⟩ (by rw [hdi]; exact hod)
  refine getX kx g I ht ?_ hv (en (g.toks _) h)
  unfold lookIn
  rw [hd']
  have := (hl n).trans hm
  unfold nsFind findBy at this
  rw [← Array.find?_toList] at this
  dsimp only
  refine e1x2 (Option.map_eq_some_iff.mp this) ?_; rintro e h1 h2
  rw [h1, ← h2]
theorem T3.sTry0 {h₀ : ExceptHandler} {hs : List ExceptHandler} {body : List Stmt} {Q : Flow → Vw → St → Prop} (h : T3 c A (execs body env) P σ (fun f P1 σ1 => f ≠ .next ∧ Q f P1 σ1) NoE) : T3 c A (exec (.Try body (h₀ :: hs) [] [] pos) env) P σ Q E := fun τ s g =>
  wpAny_Try_except (wpAny_mono (h τ s g) (fun f s1 ⟨P1, σ1, l1, g1, hf, q1⟩ => by
    cases f with
    | next => exact absurd rfl hf
    | _ => exact ⟨P1, σ1, l1, g1, q1⟩) fun e s1 ⟨_, _, _, _, z⟩ => z.elim)
theorem heard_ok (kf : KF c) (kg : KG c) (hr : Room A (t.ht + 111)) (hz : Fits T) (h1 : Rd D 0 (.row []) l1 ta) (h2 : Rd D 0 (.cho ta) l2 t) (hT : T = l1 ++ l2) (hD : DefOk c P dv D δ) (hn : need t 0 ≤ 20) (hs : t.sz ≤ 10000) :
    T3 c A (PySem.call (.ref 1019) [.str (S T) tt, dv]) P δ (fun v P' σ' => Node P' v t ∧ σ' = δ) NoE := by
  let Q1 : KO Value := fun v P' σ' => Node P' v t ∧ σ' = δ
  show T3 _ _ _ _ _ Q1 _
  refine T3.d0 kf.f__law_heard [(Str.ofString "known", dv), (Str.ofString "text", .str (S T) tt)] hr.dep (fun _ _ _ _ _ _ => by kernel_rfl) (by kernel_rfl) fun L cdv => ?_
  have hd : Room (A.deeper (mkE (fdS (topS 73)) (Str.ofString "_law_heard") L 1019 cdv)) (t.ht + 110) := hr.deeper
  refine T3.ss1 (T3.sTry0 ?_)
  refine T3.ss1 ?_
  (with_reducible refine T3.sRet ?_; refine T3.calln ?_ rfl); refine T3.nG (by assumption) (by kernel_rfl) rfl ?_; refine T3.cw0 (by assumption) rfl ?_; (with_reducible refine T3.ar1 ?_); refine T3.nL (by kernel_rfl) rfl ?_; (with_reducible refine T3.ar1 ?_); refine T3.nL (by kernel_rfl) rfl ?_; (with_reducible refine T3.ar0 ?_)
  refine T3.frTl (pre := [_]) (read_ok kf kg hd hz h1 h2 hT hD hn hs) ?_
  rintro _ P1 _ q1 ⟨hv, rfl⟩
  simp only [List.cons_append, List.nil_append, List.append_nil]
  (with_reducible refine Nx.ret ?_)
  exact ⟨by simp, Nx.ret (Bk.mk ⟨hv, rfl⟩)⟩
theorem heard_bad (kf : KF c) (kg : KG c) (kx : KX c) (hr : Room A (t.ht + 111)) (hz : Fits T) (h1 : Rd D 0 (.row []) l1 ta) (h2 : Rd D 0 (.cho ta) l2 t) (hT : T = l1 ++ l2) (hD : DefOk c P dv D δ) (hn : 20 < need t 0) (hs : t.sz ≤ 10000) (hfr : A.frames = some l) (hF : FrIn l φs) :
    T3 c A (PySem.call (.ref 1019) [.str (S T) tt, dv]) P (δ ++ φs) (fun v P' σ' => (∃ k, v = .int (0 : Nat) k) ∧ σ' = δ ++ φs) NoE := by
  let Q1 : KO Value := fun v P' σ' => (∃ k, v = .int (0 : Nat) k) ∧ σ' = δ ++ φs
  show T3 _ _ _ _ _ Q1 _
  refine T3.post (Q₁ := fun v P' σ' => (∃ k, v = .int (0 : Nat) k) ∧ ∃ x1 x2 x3 x4 x5, σ' = x1 :: x2 :: x3 :: x4 :: x5 :: (δ ++ φs)) ?_ ?_
  · refine T3.d0 kf.f__law_heard [(Str.ofString "known", dv), (Str.ofString "text", .str (S T) tt)] hr.dep (fun _ _ _ _ _ _ => by kernel_rfl) (by kernel_rfl) fun L cdv => ?_
    have hd : Room (A.deeper (mkE (fdS (topS 73)) (Str.ofString "_law_heard") L 1019 cdv)) (t.ht + 110) := hr.deeper
    have hfr2 := Around.frames_deeper (env := mkE (fdS (topS 73)) (Str.ofString "_law_heard") L 1019 cdv) hfr
    refine T3.ss1 (T3.sTryX kx rfl (by kernel_rfl) (by kernel_rfl) hfr2 ?_ ?_)
    · intro A' P1 σ1
      refine T3.nG (by assumption) (by kernel_rfl) rfl ?_
      exact i0x3 rfl rfl rfl
    · refine T3.ss1 ?_
      (with_reducible refine T3.sRet ?_; refine T3.calln ?_ rfl); refine T3.nG (by assumption) (by kernel_rfl) rfl ?_; refine T3.cw0 (by assumption) rfl ?_; (with_reducible refine T3.ar1 ?_); refine T3.nL (by kernel_rfl) rfl ?_; (with_reducible refine T3.ar1 ?_); refine T3.nL (by kernel_rfl) rfl ?_; (with_reducible refine T3.ar0 ?_)
      refine T3.perm List.perm_middle.symm ?_
      have hF2 : FrIn (mkE (fdS (topS 73)) (Str.ofString "_law_heard") L 1019 cdv :: l) ((L, NsP [(Str.ofString "known", dv), (Str.ofString "text", .str (S T) tt)]) :: φs) := fun e he => by
        rcases List.mem_cons.mp he with rfl | he
        · exact ⟨fun h => absurd ((show (fdS (topS 73)).kind = .function by kernel_rfl).symm.trans h) (by decide), i2x2 L _ rfl (.head _)⟩
        · exact FrIn.pre [_] hF e he
      refine (read_bad (φs := (L, NsP [(Str.ofString "known", dv), (Str.ofString "text", .str (S T) tt)]) :: φs) kf kg kx hd hz h1 h2 hT hD hn hs hfr2 hF2).mono (fun _ _ _ _ z => z.elim) ?_
      rintro e P1 σ1 q1 hqa; refine e6x4 hqa ?_; clear hqa; rintro x dx U w pv pre hra hrb hpre hpv; subst hra; subst hrb
      obtain ⟨y1, y2, rfl⟩ : ∃ y1 y2, pre = [y1, y2] := by
        match pre, hpre with
        | [y1, y2], _ => exact ⟨y1, y2, rfl⟩
      refine e2x2 (id hpv) ?_; rintro pa pt hra _; subst hra
      obtain ⟨pa', pt', e', tk2, tk3, ci, cj, hin⟩ := hpv
      cases e'
      refine i5x4 x dx U [(Str.ofString "known", dv), (Str.ofString "text", .str (S T) tt)] ((dx, N1P (atM w (.ref pa))) :: y1 :: y2 :: (δ ++ φs)) rfl ?_ (FrIn.pre [_, _, _] (FrIn.pre δ hF)) (fun T2 => ?_)
      · refine (List.Perm.cons _ (List.Perm.cons _ ?_))
        refine (List.perm_middle (l₁ := [_, _, _] ++ δ) (a := (L, NsP [(Str.ofString "known", dv), (Str.ofString "text", .str (S T) tt)])) (l₂ := φs)).trans ?_
        exact List.Perm.refl _
      · refine T3.ss1 ?_
        (with_reducible refine T3.sRet ?_; refine T3.attr ?_ rfl; refine T3.attr ?_ rfl); refine T3.nL (by kernel_rfl) rfl ?_
        refine T3.gX kx (v := .ref pa) (.tail _ (.tail _ (.head _))) (.tail _ (.tail _ (.tail _ (.head _)))) kx.flds.2 rfl rfl ?_
        refine T3.gI (by assumption) (by with_reducible assumption) (by first | assumption | kernel_rfl) (by kernel_rfl) rfl (by first | rfl | assumption) ?_; (with_reducible refine Nx.ret ?_)
        exact i2x2 _ _ rfl (Nx.ret (Bk.mk ⟨⟨_, rfl⟩, _, _, _, _, _, rfl⟩))
  · rintro v P1 _ q1 hqa; obtain ⟨hv, hqb⟩ := hqa; refine e5x1 hqb ?_; clear hqb; rintro x1 x2 x3 x4 x5 hra; subst hra
    exact Gs.drop (Gs.drop (Gs.drop (Gs.drop (Gs.drop (Gs.now ⟨hv, rfl⟩)))))
end
section
variable {c : Cx} {A : Around} {P : Vw} {σ δ φs : St} {E : Value → Vw → St → Prop} {Q : Value → Vw → St → Prop} {env : Env} {pos : Pos} {T : List Nat} {tt tp : Tok} {dv : Value} {D : List (List Nat × Tr)} {t ta : Tr} {l1 l2 : List Nat} {l : List Env} {p q : Nat} {bg : Bool} {x dx U : Addr} {n : Str} {v : Value}
noncomputable abbrev laP (dv : Value) (p : Nat) (tp : Tok) (T : List Nat) (tt : Tok) : Lo := [(Str.ofString "known", dv), (Str.ofString "at", .int (p : Nat) tp), (Str.ofString "text", .str (S T) tt)]
theorem lawpat_ok (kf : KF c) (kg : KG c) (hr : Room A (t.ht + 111)) (hz : Fits T) (h1 : Rd D 0 (.row []) l1 ta) (h2 : Rd D 0 (.cho ta) l2 t) (hbg : (sg T p == [94]) = bg) (hq : (if bg = true then p + 1 else p) = q) (hat : At T q (l1 ++ l2)) (hne : 0 < l1.length + l2.length) (hend : sg T (q + (l1.length + l2.length)) = [32]) (hD : DefOk c P dv D δ) (hs : t.sz ≤ 10000) (hn : need t 0 ≤ 20) :
    T3 c A (PySem.call (.ref 1054) [.str (S T) tt, .int (p : Nat) tp, dv]) P δ (fun v P' σ' => PatV P' v bg t (q + (l1.length + l2.length)) ∧ σ' = δ) NoE := by
  let Q1 : KO Value := fun v P' σ' => PatV P' v bg t (q + (l1.length + l2.length)) ∧ σ' = δ
  show T3 _ _ _ _ _ Q1 _
  refine T3.d0 kf.f__law_pattern (laP dv p tp T tt) hr.dep (fun _ _ _ _ _ _ => by kernel_rfl) (by kernel_rfl) fun L cdv => ?_
  have hd : Room (A.deeper (mkE (fdS (topS 78)) (Str.ofString "_law_pattern") L 1054 cdv)) (t.ht + 110) := hr.deeper
  refine T3.ss1 (T3.sTry0 ?_)
  refine T3.ss1 ?_
  refine T3.sAsg ?_ rfl rfl rfl; (with_reducible refine T3.calln ?_ rfl); refine T3.nG (by assumption) (by kernel_rfl) rfl ?_; refine T3.cw0 (by assumption) rfl ?_; (with_reducible refine T3.ar1 ?_); refine T3.nL (by kernel_rfl) rfl ?_; (with_reducible refine T3.ar1 ?_); refine T3.nL (by kernel_rfl) rfl ?_; (with_reducible refine T3.ar1 ?_); refine T3.nL (by kernel_rfl) rfl ?_; (with_reducible refine T3.ar0 ?_)
  refine T3.frTl (pre := [_]) (pattern_ok kf kg hd hz h1 h2 hbg hq hat hne hend hD hs hn) ?_
  rintro _ P1 _ q1 hqa; obtain ⟨hqb, rfl⟩ := hqa; refine e4x4 hqb ?_; clear hqb; rintro a po b k hra ha hpo hb; subst hra
  simp only [List.cons_append, List.nil_append, List.append_nil]
  refine T3.unp2 (Room.no (by assumption)) (by with_reducible assumption) ?_; (with_reducible refine T3.aName ?_); refine T3.st rfl ?_ (by kernel_rfl); (with_reducible refine T3.aName ?_); refine T3.st rfl ?_ (by kernel_rfl); (with_reducible refine Nx.nx ?_; refine T3.ss1 ?_; refine T3.sRet ?_; refine T3.tup ?_ rfl; refine T3.ar1 ?_); refine T3.nL (by kernel_rfl) rfl ?_; (with_reducible refine T3.ar1 ?_); refine T3.nL (by kernel_rfl) rfl ?_; (with_reducible refine T3.ar0 ?_); refine T3.newTu (lit rfl) ?_; intro _ _ _ _; (with_reducible refine Nx.ret ?_)
  exact ⟨by simp, Nx.ret (Bk.mk ⟨⟨_, po, b, k, rfl, by assumption, by (with_reducible (apply InP.le); (focus assumption); assumption), by (with_reducible (apply Node.le); (focus assumption); assumption)⟩, rfl⟩)⟩
theorem lawpat_bad (kf : KF c) (kg : KG c) (kx : KX c) (hr : Room A (t.ht + 111)) (hz : Fits T) (h1 : Rd D 0 (.row []) l1 ta) (h2 : Rd D 0 (.cho ta) l2 t) (hbg : (sg T p == [94]) = bg) (hq : (if bg = true then p + 1 else p) = q) (hat : At T q (l1 ++ l2)) (hne : 0 < l1.length + l2.length) (hend : sg T (q + (l1.length + l2.length)) = [32]) (hD : DefOk c P dv D δ) (hs : t.sz ≤ 10000)
    (hn : 20 < need t 0) (hp : p ≤ T.length) (hnl : ∀ i, i < p → T[i]? ≠ some 10) (hfr : A.frames = some l) (hF : FrIn l φs) :
    T3 c A (PySem.call (.ref 1054) [.str (S T) tt, .int (p : Nat) tp, dv]) P (δ ++ φs) (fun v P' σ' => (∃ k, v = .int (p : Nat) k) ∧ σ' = δ ++ φs) NoE := by
  let Q1 : KO Value := fun v P' σ' => (∃ k, v = .int (p : Nat) k) ∧ σ' = δ ++ φs
  show T3 _ _ _ _ _ Q1 _
  refine T3.post (Q₁ := fun v P' σ' => (∃ k, v = .int (p : Nat) k) ∧ ∃ x1 x2 x3 x4 x5, σ' = x1 :: x2 :: x3 :: x4 :: x5 :: (δ ++ φs)) ?_ ?_
  · refine T3.d0 kf.f__law_pattern (laP dv p tp T tt) hr.dep (fun _ _ _ _ _ _ => by kernel_rfl) (by kernel_rfl) fun L cdv => ?_
    have hd : Room (A.deeper (mkE (fdS (topS 78)) (Str.ofString "_law_pattern") L 1054 cdv)) (t.ht + 110) := hr.deeper
    have hfr2 := Around.frames_deeper (env := mkE (fdS (topS 78)) (Str.ofString "_law_pattern") L 1054 cdv) hfr
    refine T3.ss1 (T3.sTryX kx rfl (by kernel_rfl) (by kernel_rfl) hfr2 ?_ ?_)
    · intro A' P1 σ1
      refine T3.nG (by assumption) (by kernel_rfl) rfl ?_
      exact i0x3 rfl rfl rfl
    · refine T3.ss1 ?_
      refine T3.sAsg ?_ rfl rfl rfl; (with_reducible refine T3.calln ?_ rfl); refine T3.nG (by assumption) (by kernel_rfl) rfl ?_; refine T3.cw0 (by assumption) rfl ?_; (with_reducible refine T3.ar1 ?_); refine T3.nL (by kernel_rfl) rfl ?_; (with_reducible refine T3.ar1 ?_); refine T3.nL (by kernel_rfl) rfl ?_; (with_reducible refine T3.ar1 ?_); refine T3.nL (by kernel_rfl) rfl ?_; (with_reducible refine T3.ar0 ?_)
      refine T3.perm List.perm_middle.symm ?_
      have hF2 : FrIn (mkE (fdS (topS 78)) (Str.ofString "_law_pattern") L 1054 cdv :: l) ((L, NsP (laP dv p tp T tt)) :: φs) := fun e he => by
        rcases List.mem_cons.mp he with rfl | he
        · exact ⟨fun h => absurd ((show (fdS (topS 78)).kind = .function by kernel_rfl).symm.trans h) (by decide), i2x2 L _ rfl (.head _)⟩
        · exact FrIn.pre [_] hF e he
      refine (pattern_bad (φs := (L, NsP (laP dv p tp T tt)) :: φs) kf kg kx hd hz h1 h2 hbg hq hat hne hend hD hs hn hp hnl hfr2 hF2).mono (fun _ _ _ _ z => z.elim) ?_
      rintro e P1 σ1 q1 hqa; refine e6x4 hqa ?_; clear hqa; rintro x dx U w pv pre hra hrb hpre hpv; subst hra; subst hrb
      obtain ⟨y1, y2, rfl⟩ : ∃ y1 y2, pre = [y1, y2] := by
        match pre, hpre with
        | [y1, y2], _ => exact ⟨y1, y2, rfl⟩
      refine e2x2 (id hpv) ?_; rintro pa pt hra _; subst hra
      obtain ⟨pa', pt', e', tk2, tk3, ci, cj, hin⟩ := hpv
      cases e'
      refine i5x4 x dx U (laP dv p tp T tt) ((dx, N1P (atM w (.ref pa))) :: y1 :: y2 :: (δ ++ φs)) rfl ?_ (FrIn.pre [_, _, _] (FrIn.pre δ hF)) (fun T2 => ?_)
      · refine (List.Perm.cons _ (List.Perm.cons _ ?_))
        refine (List.perm_middle (l₁ := [_, _, _] ++ δ) (a := (L, NsP (laP dv p tp T tt))) (l₂ := φs)).trans ?_
        exact List.Perm.refl _
      · refine T3.ss1 ?_
        (with_reducible refine T3.sRet ?_; refine T3.attr ?_ rfl; refine T3.attr ?_ rfl); refine T3.nL (by kernel_rfl) rfl ?_
        refine T3.gX kx (v := .ref pa) (.tail _ (.tail _ (.head _))) (.tail _ (.tail _ (.tail _ (.head _)))) kx.flds.2 rfl rfl ?_
        refine T3.gI (by assumption) (by with_reducible assumption) (by first | assumption | kernel_rfl) (by kernel_rfl) rfl (by first | rfl | assumption) ?_; (with_reducible refine Nx.ret ?_)
        exact i2x2 _ _ rfl (Nx.ret (Bk.mk ⟨⟨_, rfl⟩, _, _, _, _, _, rfl⟩))
  · rintro v P1 _ q1 hqa; obtain ⟨hv, hqb⟩ := hqa; refine e5x1 hqb ?_; clear hqb; rintro x1 x2 x3 x4 x5 hra; subst hra
    exact Gs.drop (Gs.drop (Gs.drop (Gs.drop (Gs.drop (Gs.now ⟨hv, rfl⟩)))))
end
section
variable {c : Cx} {A : Around} {P : Vw} {σ δ φs : St} {E : Value → Vw → St → Prop} {Q : Value → Vw → St → Prop} {env : Env} {pos : Pos} {t : Tr} {x a po b s sp : Addr} {bg : Bool} {ch : Nat} {tk : Tok} {xs : List Value}
noncomputable def TolV (P : Vw) (v : Value) (bg : Bool) (t : Tr) : Prop := ∃ a x, v = .ref a ∧ TuP P a [.bool bg, .ref x, .none] ∧ TreeV P (.ref x) t
theorem pattern_told_ (kf : KF c) (hr : Room A (t.ht + 7)) (hs : t.sz ≤ 10000) (hp : InP P po 762 [(Str.ofString "body", .ref b), (Str.ofString "begins", .bool bg), (Str.ofString "trail", .none)]) (hb : Node P (.ref b) t) :
    T3 c A (PySem.call (.ref 759) [.ref po]) P [] (fun v P' σ' => TolV P' v bg t ∧ σ' = []) NoE := by
  let Q1 : KO Value := fun v P' σ' => TolV P' v bg t ∧ σ' = []
  show T3 _ _ _ _ _ Q1 _
  refine T3.d0 kf.f_Pattern_told [("self", .ref po)] hr.dep (fun _ _ _ _ _ _ => by kernel_rfl) (by kernel_rfl) fun L cdv => ?_
  refine T3.ss1 ?_
  refine T3.sAsg ?_ rfl rfl rfl; (with_reducible refine T3.cnone ?_; refine T3.aName ?_); refine T3.st rfl ?_ (by kernel_rfl); (with_reducible refine Nx.nx ?_; refine T3.ss1 ?_; refine T3.sIf ?_; refine T3.isCmp ?_ rfl; refine T3.attr ?_ rfl); refine T3.nL (by kernel_rfl) rfl ?_; refine T3.gI (by assumption) (by with_reducible assumption) (by first | assumption | kernel_rfl) (by kernel_rfl) rfl (by first | rfl | assumption) ?_; (with_reducible refine T3.cnone ?_; refine T3.isntNN ?_; refine T3.truB ?_; refine no rfl ?_; refine T3.ss0 ?_; refine Nx.nx ?_; refine T3.ss1 ?_; refine T3.sRet ?_; refine T3.tup ?_ rfl; refine T3.ar1 ?_; refine T3.attr ?_ rfl); refine T3.nL (by kernel_rfl) rfl ?_; refine T3.gI (by assumption) (by with_reducible assumption) (by first | assumption | kernel_rfl) (by kernel_rfl) rfl (by first | rfl | assumption) ?_; (with_reducible refine T3.ar1 ?_); refine T3.callm ?_ rfl rfl rfl (lit rfl); (with_reducible refine T3.attr ?_ rfl); refine T3.nL (by kernel_rfl) rfl ?_; refine T3.gI (by assumption) (by with_reducible assumption) (by first | assumption | kernel_rfl) (by kernel_rfl) rfl (by first | rfl | assumption) ?_
  refine T3.told kf hb ?_
  refine T3.cw10 kf t.inTab.2.2.2 ?_
  refine T3.fr0 (told_ kf t.sz t (Nat.le_refl _) (hr.deeper.le (Nat.lt_succ_self _)) hs hb) ?_ (fun _ _ _ q => q.2)
  rintro _ P1 l1 ⟨hv, _⟩
  obtain ⟨vx, rfl⟩ := hv.ref
  (with_reducible refine T3.ar1 ?_); refine T3.nL (by kernel_rfl) rfl ?_; (with_reducible refine T3.ar0 ?_); refine T3.newTu (lit rfl) ?_; intro _ _ _ _; (with_reducible refine Nx.ret ?_)
  exact Bk.mk ⟨⟨_, vx, rfl, by assumption, hv.le (by assumption)⟩, rfl⟩
/-! showing -/
noncomputable def abc (ch : Nat) : Prop := ch = 97 ∨ ch = 98 ∨ ch = 99
theorem abc.le {ch : Nat} (h : abc ch) : 97 ≤ ch ∧ ch ≤ 99 := by unfold abc at h; omega
theorem escaped_ (kf : KF c) (hr : Room A 3) (hc : abc ch) {tm : Tok} : T3 c A (PySem.call (.ref 240) [.str (S [ch]) tk, .str (Str.ofString "\"[](){}.*+?|^$/<%") tm]) P [] (fun v P' σ' => (∃ k, v = .str (S [ch]) k) ∧ σ' = []) NoE := by
  let Q1 : KO Value := fun v P' σ' => (∃ k, v = .str (S [ch]) k) ∧ σ' = []
  show T3 _ _ _ _ _ Q1 _
  refine T3.d0 kf.f_escaped_sign [("marks", .str (Str.ofString "\"[](){}.*+?|^$/<%") tm), ("sign", .str (S [ch]) tk)] hr.dep (fun _ _ _ _ _ _ => by kernel_rfl) (by kernel_rfl) fun L cdv => ?_
  refine T3.ss1 ?_
  (with_reducible refine T3.sIf ?_; refine T3.isCmp ?_ rfl); refine T3.nL (by kernel_rfl) rfl ?_; refine T3.cstr ?_; intro _; (with_reducible refine T3.sEq ?_; refine T3.truB ?_)
  have n1 : ∀ b, b < 97 → (S [ch] == S [b]) = false := fun b hb => ne_beq (by have := hc.le; omega)
  have nm : Txt.contains (Str.ofString "\"[](){}.*+?|^$/<%") (S [ch]) = false := by
    rw [show Str.ofString "\"[](){}.*+?|^$/<%" = S ((Str.ofString "\"[](){}.*+?|^$/<%").cps.toList) from rfl, S_contains]
    rcases hc with rfl | rfl | rfl <;> decide
  refine no (n1 10 (by decide)) ?_
  (with_reducible refine T3.ss0 ?_; refine Nx.nx ?_; refine T3.ss1 ?_; refine T3.sIf ?_; refine T3.isCmp ?_ rfl); refine T3.nL (by kernel_rfl) rfl ?_; refine T3.cstr ?_; intro _; (with_reducible refine T3.sEq ?_; refine T3.truB ?_)
  refine no (n1 9 (by decide)) ?_
  (with_reducible refine T3.ss0 ?_; refine Nx.nx ?_; refine T3.ss1 ?_; refine T3.sIf ?_; refine T3.isBool ?_; refine T3.and1 ?_; refine T3.isCmp ?_ rfl); refine T3.nL (by kernel_rfl) rfl ?_; refine T3.nL (by kernel_rfl) rfl ?_; (with_reducible refine T3.sIn ?_; refine T3.truB ?_)
  refine no nm ?_
  (with_reducible refine no rfl ?_; refine T3.ss0 ?_; refine Nx.nx ?_; refine T3.ss1 ?_; refine T3.sIf ?_; refine T3.isBool ?_; refine T3.or1 ?_; refine T3.isCmp ?_ rfl); refine T3.nL (by kernel_rfl) rfl ?_; refine T3.nL (by kernel_rfl) rfl ?_; (with_reducible refine T3.sIn ?_; refine T3.truB ?_)
  refine no nm ?_
  (with_reducible refine T3.or1 ?_; refine T3.isCmp ?_ rfl); refine T3.nL (by kernel_rfl) rfl ?_; refine T3.cstr ?_; intro _; (with_reducible refine T3.sEq ?_; refine T3.truB ?_)
  refine no (n1 92 (by decide)) ?_
  (with_reducible refine T3.or0 ?_; refine no rfl ?_; refine T3.ss0 ?_; refine Nx.nx ?_; refine T3.ss1 ?_); refine T3.sAsg ?_ rfl rfl rfl; (with_reducible refine T3.calln ?_ rfl); refine T3.nB (by assumption) (by kernel_rfl) (by boot_by_name) ?_; (with_reducible refine T3.cwB ?_; refine T3.ar1 ?_); refine T3.nL (by kernel_rfl) rfl ?_; (with_reducible refine T3.ar0 ?_); refine T3.cOrd ?_; intro _; (with_reducible refine T3.aName ?_); refine T3.st rfl ?_ (by kernel_rfl); (with_reducible refine Nx.nx ?_; refine T3.ss1 ?_; refine T3.sIf ?_; refine T3.isBool ?_; refine T3.and1 ?_; refine T3.isBool ?_; refine T3.or1 ?_; refine T3.isCmp ?_ rfl); refine T3.nL (by kernel_rfl) rfl ?_; refine T3.cint ?_; intro _; (with_reducible refine T3.iLt ?_; refine T3.truB ?_)
  have := hc.le
  refine no (by simp; omega) ?_
  (with_reducible refine T3.or1 ?_; refine T3.isCmp ?_ rfl); refine T3.nL (by kernel_rfl) rfl ?_; refine T3.cint ?_; intro _; (with_reducible refine T3.iGt ?_; refine T3.truB ?_)
  refine no (by simp; omega) ?_
  (with_reducible refine T3.or0 ?_; refine no rfl ?_; refine no rfl ?_; refine T3.ss0 ?_; refine Nx.nx ?_; refine T3.ss1 ?_; refine T3.sRet ?_); refine T3.nL (by kernel_rfl) rfl ?_; (with_reducible refine Nx.ret ?_)
  exact Bk.mk ⟨⟨_, rfl⟩, rfl⟩
theorem show_sign_ (kf : KF c) (hr : Room A 4) (hc : abc ch) : T3 c A (PySem.call (.ref 934) [.str (S [ch]) tk]) P [] (fun v P' σ' => (∃ k, v = .str (S [ch]) k) ∧ σ' = []) NoE := by
  let Q1 : KO Value := fun v P' σ' => (∃ k, v = .str (S [ch]) k) ∧ σ' = []
  show T3 _ _ _ _ _ Q1 _
  refine T3.d0 kf.f_show_sign [("sign", .str (S [ch]) tk)] hr.dep (fun _ _ _ _ _ _ => by kernel_rfl) (by kernel_rfl) fun L cdv => ?_
  refine T3.ss1 ?_
  (with_reducible refine T3.sIf ?_; refine T3.isCmp ?_ rfl); refine T3.nL (by kernel_rfl) rfl ?_; refine T3.cstr ?_; intro _; (with_reducible refine T3.sEq ?_; refine T3.truB ?_)
  refine no (ne_beq (b := 32) (by have := hc.le; omega)) ?_
  (with_reducible refine T3.ss0 ?_; refine Nx.nx ?_; refine T3.ss1 ?_; refine T3.sRet ?_; refine T3.calln ?_ rfl); refine T3.nG (by assumption) (by kernel_rfl) rfl ?_; refine T3.cw0 (by assumption) rfl ?_; (with_reducible refine T3.ar1 ?_); refine T3.nL (by kernel_rfl) rfl ?_; (with_reducible refine T3.ar1 ?_); refine T3.nG (by assumption) (by kernel_rfl) rfl ?_; (with_reducible refine T3.ar0 ?_)
  refine T3.fr0 (escaped_ kf (hr.deeper.le (lit rfl)) hc) ?_ (fun _ _ _ q => q.2)
  rintro _ P1 l1 ⟨⟨k, rfl⟩, _⟩
  (with_reducible refine Nx.ret ?_)
  exact Bk.mk ⟨⟨_, rfl⟩, rfl⟩
theorem T3.tTruth {Q : Bool → Vw → St → Prop} (hl : TuP P a xs) (hz : xs.length ≤ sizeLine) (h : Q (!xs.isEmpty) P σ) : T3 c A (truthy (.ref a)) P σ Q E := fun τ s g => by
  have hz' := sizeLine_eq ▸ hz
  refine truthy_tuple (hl.isTup g) (by simp; omega) ⟨P, σ, Le.refl _, g.toks _, ?_⟩
  have e : xs.toArray.isEmpty = xs.isEmpty := by cases xs <;> rfl
  first | (rw [e]; exact h) | (cases xs <;> simpa using h)
theorem size_ (kf : KF c) (hr : Room A 3) (hs : CsP P s ch) : T3 c A (PySem.call (.ref 362) [.ref s]) P [] (fun v P' σ' => (∃ k, v = .int 1 k) ∧ σ' = []) NoE := by
  let Q1 : KO Value := fun v P' σ' => (∃ k, v = .int 1 k) ∧ σ' = []
  show T3 _ _ _ _ _ Q1 _
  obtain ⟨sp, h1, hqa⟩ := hs; refine e3x2 hqa ?_; clear hqa; rintro pr k1 k2 h2 h3
  refine T3.d0 kf.f_CharSet_size [("self", .ref s)] hr.dep (fun _ _ _ _ _ _ => by kernel_rfl) (by kernel_rfl) fun L cdv => ?_
  have hd : Room (A.deeper (mkE (fdS (clsS 22 8)) (Str.ofString "CharSet.size") L 362 cdv)) 2 := hr.deeper
  refine T3.ss1 ?_
  refine T3.sAsg ?_ rfl rfl rfl; refine T3.cint ?_; intro _; (with_reducible refine T3.aName ?_); refine T3.st rfl ?_ (by kernel_rfl); (with_reducible refine Nx.nx ?_; refine T3.ss1 ?_); refine T3.sFor ?_ (fun _ => rfl); (with_reducible refine T3.attr ?_ rfl); refine T3.nL (by kernel_rfl) rfl ?_; refine T3.gI (by assumption) (by with_reducible assumption) (by first | assumption | kernel_rfl) (by kernel_rfl) rfl (by first | rfl | assumption) ?_
  refine T3.itTu1 (J := fun P' σ' => ∃ m k, σ' = [(L, NsP m)] ∧ Has m [(Str.ofString "total", .int (0 + (ch : Int) - ch + 1) k)]) h2 hd.no ?_ ?_
  · refine T3.unp2 (Room.no (by assumption)) (by with_reducible assumption) ?_; (with_reducible refine T3.aName ?_); refine T3.st rfl ?_ (by kernel_rfl); (with_reducible refine T3.aName ?_); refine T3.st rfl ?_ (by kernel_rfl); (with_reducible refine T3.ss1 ?_); refine T3.sAsg ?_ rfl rfl rfl; (with_reducible refine T3.binop ?_; refine T3.binop ?_; refine T3.binop ?_); refine T3.nL (by kernel_rfl) rfl ?_; refine T3.nL (by kernel_rfl) rfl ?_; refine T3.iAdd ?_; intro _; refine T3.nL (by kernel_rfl) rfl ?_; refine T3.iSub ?_; intro _; refine T3.cint ?_; intro _; refine T3.iAdd ?_; intro _; (with_reducible refine T3.aName ?_); refine T3.st rfl ?_ (by kernel_rfl); (with_reducible refine Nx.nx ?_; refine T3.ss0 ?_)
    exact i2x2 _ _ rfl (by repeat (first | exact Has.nil | refine Has.cons rfl ?_))
  · rintro P2 _ l2 hqa; refine e2x2 hqa ?_; clear hqa; rintro m k hra hm; subst hra
    refine T3.forget hm ?_
    (with_reducible refine T3.ss0 ?_; refine Nx.nx ?_; refine T3.ss1 ?_; refine T3.sRet ?_); refine T3.nL (by kernel_rfl) rfl ?_; (with_reducible refine Nx.ret ?_)
    have e : (0 + (ch : Int) - ch + 1) = 1 := by omega
    exact Bk.mk ⟨⟨k, by rw [e]⟩, rfl⟩
theorem least_ (kf : KF c) (hr : Room A 3) (hs : CsP P s ch) : T3 c A (PySem.call (.ref 376) [.ref s]) P [] (fun v P' σ' => (∃ k, v = .int ch k) ∧ σ' = []) NoE := by
  let Q1 : KO Value := fun v P' σ' => (∃ k, v = .int ch k) ∧ σ' = []
  show T3 _ _ _ _ _ Q1 _
  obtain ⟨sp, h1, hqa⟩ := hs; refine e3x2 hqa ?_; clear hqa; rintro pr k1 k2 h2 h3
  refine T3.d0 kf.f_CharSet_least [("self", .ref s)] hr.dep (fun _ _ _ _ _ _ => by kernel_rfl) (by kernel_rfl) fun L cdv => ?_
  refine T3.ss1 ?_
  (with_reducible refine T3.sIf ?_; refine T3.isNot ?_); refine T3.isT rfl ?_; (with_reducible refine T3.attr ?_ rfl); refine T3.nL (by kernel_rfl) rfl ?_; refine T3.gI (by assumption) (by with_reducible assumption) (by first | assumption | kernel_rfl) (by kernel_rfl) rfl (by first | rfl | assumption) ?_
  refine T3.tTruth h2 (lit rfl) ?_
  (with_reducible refine no rfl ?_; refine T3.ss0 ?_; refine Nx.nx ?_; refine T3.ss1 ?_; refine T3.sRet ?_); refine T3.subG ?_ (fun _ _ => rfl); refine T3.subG ?_ (fun _ _ => rfl); (with_reducible refine T3.attr ?_ rfl); refine T3.nL (by kernel_rfl) rfl ?_; refine T3.gI (by assumption) (by with_reducible assumption) (by first | assumption | kernel_rfl) (by kernel_rfl) rfl (by first | rfl | assumption) ?_; refine T3.cint ?_; intro _; refine T3.gTu (by with_reducible assumption) ?_
  refine T3.tItem (k := 0) h2 rfl rfl (lit rfl) ?_
  refine T3.cint ?_; intro _; refine T3.gTu (by with_reducible assumption) ?_
  refine T3.tItem (k := 0) h3 rfl rfl (lit rfl) ?_
  (with_reducible refine Nx.ret ?_)
  exact Bk.mk ⟨⟨k1, rfl⟩, rfl⟩
end
section
variable {c : Cx} {A : Around} {P : Vw} {σ δ φs : St} {E : Value → Vw → St → Prop} {Q : Value → Vw → St → Prop} {env : Env} {pos : Pos} {t : Tr} {x a po b s sp : Addr} {bg : Bool} {ch : Nat} {tk : Tok} {xs : List Value}
/-- the spans of the dot -/
noncomputable def DotP (P : Vw) (sp : Addr) : Prop := ∃ p1 p2 k1 k2 k3 k4, TuP P sp [.ref p1, .ref p2] ∧ TuP P p1 [.int 0 k1, .int 9 k2] ∧ TuP P p2 [.int 11 k3, .int 127 k4]
theorem DotP.da (h : DotP P sp) : DaP P (.ref sp) (.tuple [.tuple [.int 0, .int 9], .tuple [.int 11, .int 127]]) := by
  refine e6x3 (h) ?_; rintro p1 p2 k1 k2 k3 k4 h1 h2 h3
  exact DaP.tuple h1 (.cons (DaP.tuple h2 (.cons .int (.cons .int .nil))) (.cons (DaP.tuple h3 (.cons .int (.cons .int .nil))) .nil))
theorem SpP.da (h : SpP P sp ch) : DaP P (.ref sp) (.tuple [.tuple [.int ch, .int ch]]) := by
  refine e3x2 (h) ?_; rintro pr k1 k2 h1 h2
  exact DaP.tuple h1 (.cons (DaP.tuple h2 (.cons .int (.cons .int .nil))) .nil)
theorem dot_ (kf : KF c) (hr : Room A 8) : T3 c A (PySem.call (.ref 317) []) P [] (fun v P' σ' => (∃ y sp, v = .ref y ∧ InP P' y 442 [(Str.ofString "spans", .ref sp)] ∧ DotP P' sp) ∧ σ' = []) NoE := by
  let Q1 : KO Value := fun v P' σ' => (∃ y sp, v = .ref y ∧ InP P' y 442 [(Str.ofString "spans", .ref sp)] ∧ DotP P' sp) ∧ σ' = []
  show T3 _ _ _ _ _ Q1 _
  refine T3.d0 kf.f_CharSet_dot [] hr.dep (fun _ _ _ _ _ _ => by kernel_rfl) (by kernel_rfl) fun L cdv => ?_
  refine T3.ss1 ?_
  (with_reducible refine T3.sRet ?_; refine T3.calln ?_ rfl); refine T3.nG (by assumption) (by kernel_rfl) rfl ?_; refine T3.cwC (by assumption) rfl ?_; (with_reducible refine T3.ar1 ?_; refine T3.tup ?_ rfl; refine T3.ar1 ?_; refine T3.tup ?_ rfl; refine T3.ar1 ?_); refine T3.cint ?_; intro _; (with_reducible refine T3.ar1 ?_); refine T3.cint ?_; intro _; (with_reducible refine T3.ar0 ?_); refine T3.newTu (lit rfl) ?_; intro _ _ _ _; (with_reducible refine T3.ar1 ?_; refine T3.tup ?_ rfl; refine T3.ar1 ?_); refine T3.cint ?_; intro _; (with_reducible refine T3.ar1 ?_); refine T3.nG (by assumption) (by kernel_rfl) rfl ?_; (with_reducible refine T3.ar0 ?_); refine T3.newTu (lit rfl) ?_; intro _ _ _ _; (with_reducible refine T3.ar0 ?_); refine T3.newTu (lit rfl) ?_; intro _ _ _ _; (with_reducible refine T3.ar0 ?_)
  rename_i p1 P1 l1 hp1 k3 p2 P2 l2 hp2 sp P3 l3 hp3
  refine T3.fr0 (cs_new kf (hr.deeper.le (lit rfl))) ?_ (fun _ _ _ q => q.2)
  rintro _ P4 l4 hqa; obtain ⟨hqb, _⟩ := hqa; refine e1x2 hqb ?_; clear hqb; rintro y hra hy; subst hra
  (with_reducible refine Nx.ret ?_)
  exact Bk.mk ⟨⟨y, sp, rfl, hy, p1, p2, _, _, _, _, hp3.le l4, (hp1.le l2).le (l3.trans l4), hp2.le (l3.trans l4)⟩, rfl⟩
theorem same_ (kf : KF c) (hr : Room A 9) (hs : CsP P s ch) {y sp : Addr} (hy : InP P y 442 [(Str.ofString "spans", .ref sp)]) (hd : DotP P sp) : T3 c A (PySem.call (.ref 418) [.ref s, .ref y]) P [] (fun v P' σ' => v = .bool false ∧ σ' = []) NoE := by
  let Q1 : KO Value := fun v P' σ' => v = .bool false ∧ σ' = []
  show T3 _ _ _ _ _ Q1 _
  refine e1x2 (hs) ?_; rintro sp2 h1 h2
  refine T3.d0 kf.f_CharSet_same [("other", .ref y), ("self", .ref s)] hr.dep (fun _ _ _ _ _ _ => by kernel_rfl) (by kernel_rfl) fun L cdv => ?_
  refine T3.ss1 ?_
  (with_reducible refine T3.sRet ?_; refine T3.cmp1 ?_ rfl; refine T3.attr ?_ rfl); refine T3.nL (by kernel_rfl) rfl ?_; refine T3.gI (by assumption) (by with_reducible assumption) (by first | assumption | kernel_rfl) (by kernel_rfl) rfl (by first | rfl | assumption) ?_; (with_reducible refine T3.attr ?_ rfl); refine T3.nL (by kernel_rfl) rfl ?_; refine T3.gI (by assumption) (by with_reducible assumption) (by first | assumption | kernel_rfl) (by kernel_rfl) rfl (by first | rfl | assumption) ?_
  refine T3.daEq h2.da hd.da rfl rfl (by have := hr.2.1; show A.units + 3 + 64 < _; omega) rfl ?_
  (with_reducible refine Nx.ret ?_)
  refine Bk.mk ⟨?_, rfl⟩
  simp [Spec.same, Spec.sameAll]
theorem show_chars_ (kf : KF c) (hr : Room A 11) (hs : CsP P s ch) (hc : abc ch) : T3 c A (PySem.call (.ref 941) [.ref s]) P [] (fun v P' σ' => (∃ k, v = .str (S [ch]) k) ∧ σ' = []) NoE := by
  let Q1 : KO Value := fun v P' σ' => (∃ k, v = .str (S [ch]) k) ∧ σ' = []
  show T3 _ _ _ _ _ Q1 _
  refine e1x2 (id hs) ?_; rintro sp0 h1 h2
  refine T3.d0 kf.f_show_chars [("charset", .ref s)] hr.dep (fun _ _ _ _ _ _ => by kernel_rfl) (by kernel_rfl) fun L cdv => ?_
  have hd : Room (A.deeper (mkE (fdS (topS 60)) (Str.ofString "show_chars") L 941 cdv)) 10 := hr.deeper
  refine T3.ss1 ?_
  (with_reducible refine T3.sIf ?_); refine T3.isT rfl ?_; refine T3.callm ?_ rfl rfl rfl (lit rfl); refine T3.nL (by kernel_rfl) rfl ?_; refine T3.mFI (by assumption) (by with_reducible assumption) (by first | assumption | kernel_rfl) rfl (by kernel_rfl) rfl ?_; refine T3.cw1 (by assumption) rfl ?_; (with_reducible refine T3.ar1 ?_); refine T3.callm ?_ rfl rfl rfl (lit rfl); refine T3.nG (by assumption) (by kernel_rfl) rfl ?_; refine T3.mSt (by assumption) rfl ?_; refine T3.cw00 (by assumption) rfl ?_
  refine T3.fr0 (dot_ kf (hd.le (lit rfl))) ?_ (fun _ _ _ q => q.2)
  rintro _ P1 l1 hqa; obtain ⟨hqb, _⟩ := hqa; refine e2x3 hqb ?_; clear hqb; rintro y sp hra hy hdp; subst hra
  (with_reducible refine T3.ar0 ?_)
  refine T3.fr0 (same_ kf (hd.le (lit rfl)) (hs.le l1) hy hdp) ?_ (fun _ _ _ q => q.2)
  rintro _ P2 l2 ⟨rfl, _⟩
  (with_reducible refine T3.truB ?_; refine no rfl ?_; refine T3.ss0 ?_; refine Nx.nx ?_; refine T3.ss1 ?_; refine T3.sIf ?_; refine T3.isCmp ?_ rfl); refine T3.callm ?_ rfl rfl rfl (lit rfl); refine T3.nL (by kernel_rfl) rfl ?_; refine T3.mFI (by assumption) (by (with_reducible (apply InP.le); (focus assumption); (apply InP.le); (focus assumption); assumption)) (by first | assumption | kernel_rfl) rfl (by kernel_rfl) rfl ?_; refine T3.cw10 (by assumption) rfl ?_
  refine T3.fr0 (size_ kf (hd.le (lit rfl)) ((hs.le l1).le l2)) ?_ (fun _ _ _ q => q.2)
  rintro _ P3 l3 ⟨⟨k3, rfl⟩, _⟩
  refine T3.cint ?_; intro _; (with_reducible refine T3.iEq ?_; refine T3.truB ?_; refine yes rfl ?_; refine T3.ss1 ?_; refine T3.sRet ?_; refine T3.calln ?_ rfl); refine T3.nG (by assumption) (by kernel_rfl) rfl ?_; refine T3.cw0 (by assumption) rfl ?_; (with_reducible refine T3.ar1 ?_; refine T3.calln ?_ rfl); refine T3.nB (by assumption) (by kernel_rfl) (by boot_by_name) ?_; (with_reducible refine T3.cwB ?_; refine T3.ar1 ?_); refine T3.callm ?_ rfl rfl rfl (lit rfl); refine T3.nL (by kernel_rfl) rfl ?_; refine T3.mFI (by assumption) (by (with_reducible (apply InP.le); (focus assumption); (apply InP.le); (focus assumption); (apply InP.le); (focus assumption); assumption)) (by first | assumption | kernel_rfl) rfl (by kernel_rfl) rfl ?_; refine T3.cw10 (by assumption) rfl ?_
  refine T3.fr0 (least_ kf (hd.le (lit rfl)) (((hs.le l1).le l2).le l3)) ?_ (fun _ _ _ q => q.2)
  rintro _ P4 l4 ⟨⟨k4, rfl⟩, _⟩
  (with_reducible refine T3.ar0 ?_)
  refine T3.cChr (by have := hc.le; omega) fun _ => ?_
  (with_reducible refine T3.ar0 ?_)
  refine T3.fr0 (show_sign_ kf (hd.le (lit rfl)) hc) ?_ (fun _ _ _ q => q.2)
  rintro _ P5 l5 ⟨⟨k5, rfl⟩, _⟩
  (with_reducible refine Nx.ret ?_; refine Nx.ret ?_)
  exact Bk.mk ⟨⟨_, rfl⟩, rfl⟩
theorem show_loop_ (kf : KF c) (hr : Room A 3) {k : LK} {b0 : Tr} (hn : Node P (.ref x) (.loop k b0)) : T3 c A (PySem.call (.ref 955) [.ref x]) P [] (fun v P' σ' => (∃ j, v = .str (S [k.sign]) j) ∧ σ' = []) NoE := by
  let Q1 : KO Value := fun v P' σ' => (∃ j, v = .str (S [k.sign]) j) ∧ σ' = []
  show T3 _ _ _ _ _ Q1 _
  refine T3.d0 kf.f_show_loop [("node", .ref x)] hr.dep (fun _ _ _ _ _ _ => by kernel_rfl) (by kernel_rfl) fun L cdv => ?_
  refine T3.ss1 ?_
  (with_reducible refine T3.sIf ?_; refine T3.isCmp ?_ rfl; refine T3.attr ?_ rfl); refine T3.nL (by kernel_rfl) rfl ?_
  refine T3.name kf hn ?_
  refine T3.cstr ?_; intro _; (with_reducible refine T3.sEq ?_; refine T3.truB ?_)
  cases k
  · refine yes (by kernel_rfl) ?_
    (with_reducible refine T3.ss1 ?_; refine T3.sRet ?_); refine T3.cstr ?_; intro _; (with_reducible refine Nx.ret ?_; refine Nx.ret ?_)
    exact Bk.mk ⟨⟨_, rfl⟩, rfl⟩
  · refine no (by kernel_rfl) ?_
    (with_reducible refine T3.ss0 ?_; refine Nx.nx ?_; refine T3.ss1 ?_; refine T3.sIf ?_; refine T3.isCmp ?_ rfl; refine T3.attr ?_ rfl); refine T3.nL (by kernel_rfl) rfl ?_
    refine T3.name kf hn ?_
    refine T3.cstr ?_; intro _; (with_reducible refine T3.sEq ?_; refine T3.truB ?_; refine yes rfl ?_; refine T3.ss1 ?_; refine T3.sRet ?_); refine T3.cstr ?_; intro _; (with_reducible refine Nx.ret ?_; refine Nx.ret ?_)
    exact Bk.mk ⟨⟨_, rfl⟩, rfl⟩
  · refine no (by kernel_rfl) ?_
    (with_reducible refine T3.ss0 ?_; refine Nx.nx ?_; refine T3.ss1 ?_; refine T3.sIf ?_; refine T3.isCmp ?_ rfl; refine T3.attr ?_ rfl); refine T3.nL (by kernel_rfl) rfl ?_
    refine T3.name kf hn ?_
    refine T3.cstr ?_; intro _; (with_reducible refine T3.sEq ?_; refine T3.truB ?_; refine no rfl ?_; refine T3.ss0 ?_; refine Nx.nx ?_; refine T3.ss1 ?_; refine T3.sIf ?_; refine T3.isCmp ?_ rfl; refine T3.attr ?_ rfl); refine T3.nL (by kernel_rfl) rfl ?_
    refine T3.name kf hn ?_
    refine T3.cstr ?_; intro _; (with_reducible refine T3.sEq ?_; refine T3.truB ?_; refine yes rfl ?_; refine T3.ss1 ?_; refine T3.sRet ?_); refine T3.cstr ?_; intro _; (with_reducible refine Nx.ret ?_; refine Nx.ret ?_)
    exact Bk.mk ⟨⟨_, rfl⟩, rfl⟩
end
/-! the shown text -/
noncomputable def brk (b : Prop) [Decidable b] (s : List Nat) : List Nat := if b then 40 :: (s ++ [41]) else s
noncomputable def addL : List Nat → Nat → List LK → List Nat
  | s, _, [] => s
  | s, i, k :: ks => addL (brk (0 < i ∧ i % 20 = 0) s ++ [k.sign]) (i + 1) ks
noncomputable def sh : Tr → List LK → Nat → List Nat
  | .chr c, a, _ => addL [c] 0 a
  | .emp, a, _ => addL [40, 41] 0 a
  | .cat l r, a, p => addL (brk (2 ≤ p) (sh l [] (if isPk .cat l then 0 else 2) ++ sh r [] 2)) 0 a
  | .alt l r, a, p => addL (brk (1 ≤ p) (sh l [] (if isPk .alt l then 0 else 1) ++ 124 :: sh r [] 1)) 0 a
  | .loop k b, a, _ => sh b (k :: a) 2
theorem addL_snoc (k : LK) : ∀ (ks : List LK) (s : List Nat) (j : Nat), addL s j (ks ++ [k]) = brk (0 < j + ks.length ∧ (j + ks.length) % 20 = 0) (addL s j ks) ++ [k.sign]
  | [], s, j => by simp [addL]
  | q :: ks, s, j => by
    rw [List.cons_append, addL, addL_snoc k ks]
    rw [show j + 1 + ks.length = j + (q :: ks).length by rw [List.length_cons, Nat.add_right_comm]; rfl]
    rfl
theorem brk_len (b : Prop) [Decidable b] (s : List Nat) : (brk b s).length ≤ s.length + 2 := by unfold brk; split <;> simp
theorem addL_len : ∀ (ks : List LK) (s : List Nat) (j : Nat), (addL s j ks).length ≤ s.length + 3 * ks.length
  | [], s, j => by simp [addL]
  | k :: ks, s, j => by
    rw [addL]
    refine Nat.le_trans (addL_len ks (brk (0 < j ∧ j % 20 = 0) s ++ [k.sign]) (j + 1)) ?_
    rw [List.length_append]
    show (brk (0 < j ∧ j % 20 = 0) s).length + 1 + 3 * ks.length ≤ s.length + 3 * (ks.length + 1)
    rw [Nat.mul_add, Nat.add_comm (3 * ks.length), ← Nat.add_assoc]
    exact Nat.add_le_add_right (Nat.succ_le_succ (brk_len (0 < j ∧ j % 20 = 0) s)) _
theorem sh_len : ∀ (t : Tr) (a : List LK) (p : Nat), (sh t a p).length ≤ 3 * t.sz + 3 * a.length
  | .chr c, a, _ => Nat.le_trans (addL_len a [c] 0) (Nat.add_le_add_right (lit rfl : 1 ≤ 3) _)
  | .emp, a, _ => Nat.le_trans (addL_len a [40, 41] 0) (Nat.add_le_add_right (lit rfl : 2 ≤ 3) _)
  | .cat l r, a, p => by
    have h1 : _ ≤ 3 * l.sz := sh_len l [] (if isPk .cat l then 0 else 2)
    have h2 : _ ≤ 3 * r.sz := sh_len r [] 2
    refine Nat.le_trans (addL_len a _ 0) (Nat.add_le_add_right (Nat.le_trans (brk_len _ _) ?_) _)
    rw [List.length_append, Tr.sz, Nat.mul_add, Nat.mul_add]
    exact Nat.add_le_add (Nat.add_le_add h1 h2) (lit rfl)
  | .alt l r, a, p => by
    have h1 : _ ≤ 3 * l.sz := sh_len l [] (if isPk .alt l then 0 else 1)
    have h2 : _ ≤ 3 * r.sz := sh_len r [] 1
    refine Nat.le_trans (addL_len a _ 0) (Nat.add_le_add_right (Nat.le_trans (brk_len _ _) ?_) _)
    rw [List.length_append, List.length_cons, Tr.sz, Nat.mul_add, Nat.mul_add]
    exact Nat.add_le_add_right (Nat.add_le_add h1 h2) 3
  | .loop k b, a, p => by
    have := sh_len b (k :: a) 2
    rw [List.length_cons, Nat.mul_add, Nat.add_comm (3 * a.length), ← Nat.add_assoc] at this
    exact this
theorem sh_acc (t : Tr) (a : List LK) (p : Nat) (h : ∀ k b, t ≠ .loop k b) : sh t a p = addL (sh t [] p) 0 a := by
  cases t <;> first | rfl | exact absurd rfl (h _ _)
/-- parts glued -/
noncomputable def gl (g : List Nat) : List (List Nat) → List Nat
  | [] => []
  | x :: r => r.foldl (fun a p => a ++ g ++ p) x
theorem gl_snoc (g x : List Nat) : ∀ ls : List (List Nat), ls ≠ [] → gl g (ls ++ [x]) = gl g ls ++ g ++ x
  | [], h => absurd rfl h
  | y :: r, _ => by simp [gl, List.foldl_append]
theorem join_gl (g : List Nat) (ls : List (List Nat)) : Txt.join (S g) (ls.map S) = S (gl g ls) := by
  have k : ∀ (r : List (List Nat)) (x : List Nat), (r.map S).foldl (fun (acc : Array Nat) (p : Str) => acc ++ (S g).cps ++ p.cps) x.toArray = (r.foldl (fun a p => a ++ g ++ p) x).toArray := by
    intro r
    induction r with
    | nil => intro x; rfl
    | cons y r ih =>
      intro x
      rw [List.map_cons, List.foldl_cons, List.foldl_cons, ← ih]
      congr 1
      simp [S]
  cases ls with
  | nil => rfl
  | cons x r =>
    show Str.mk _ = _
    unfold S
    congr 1
    exact k r x
noncomputable def sepOf : PK → List Nat | .cat => [] | .alt => [124]
theorem gl_spl (k : PK) : ∀ t : Tr, gl (sepOf k) ((spl k t).map fun q => sh q [] (inn k)) = sh t [] (if isPk k t then 0 else inn k) := by
  intro t
  induction t with
  | chr ch => cases k <;> simp [spl, isPk, gl]
  | emp => cases k <;> simp [spl, isPk, gl]
  | loop q b ih => cases k <;> simp [spl, isPk, gl]
  | cat l r ihl ihr =>
    cases k
    · rw [show spl .cat (.cat l r) = spl .cat l ++ [r] from rfl, List.map_append, List.map_singleton, gl_snoc _ _ _ (by simpa using spl_ne .cat l), ihl]
      simp [isPk, sh, sepOf, inn, addL, brk]
    · simp [spl, isPk, gl]
  | alt l r ihl ihr =>
    cases k
    · simp [spl, isPk, gl]
    · rw [show spl .alt (.alt l r) = spl .alt l ++ [r] from rfl, List.map_append, List.map_singleton, gl_snoc _ _ _ (by simpa using spl_ne .alt l), ihl]
      simp [isPk, sh, sepOf, inn, addL, brk]
noncomputable def Abc : Tr → Prop
  | .chr c => abc c | .emp => True | .cat l r => Abc l ∧ Abc r | .alt l r => Abc l ∧ Abc r | .loop _ b => Abc b
theorem Abc.spl (k : PK) : ∀ {t : Tr}, Abc t → ∀ q ∈ spl k t, Abc q
  | .cat l r, h, q, hq => by
    cases k
    · simp only [Mine.spl, List.mem_append, List.mem_singleton] at hq
      rcases hq with hq | rfl
      · exact Abc.spl .cat h.1 q hq
      · exact h.2
    · obtain rfl : q = _ := by simpa [Mine.spl] using hq
      exact h
  | .alt l r, h, q, hq => by
    cases k
    · obtain rfl : q = _ := by simpa [Mine.spl] using hq
      exact h
    · simp only [Mine.spl, List.mem_append, List.mem_singleton] at hq
      rcases hq with hq | rfl
      · exact Abc.spl .alt h.1 q hq
      · exact h.2
  | .chr c, h, q, hq => by obtain rfl : q = _ := by cases k <;> simpa [Mine.spl] using hq
                           exact h
  | .emp, h, q, hq => by obtain rfl : q = _ := by cases k <;> simpa [Mine.spl] using hq
                         exact h
  | .loop _ _, h, q, hq => by obtain rfl : q = _ := by cases k <;> simpa [Mine.spl] using hq
                              exact h
theorem strs_of {f : Tr → List Nat} : ∀ (ys : List Value) (ts : List Tr), ys.length = ts.length → (∀ (i : Nat) y, ys[i]? = some y → ∃ q k, ts[i]? = some q ∧ y = .str (S (f q)) k) → ∃ ps, ys = strValues ps ∧ ps.map (·.1) = (ts.map f).map S
  | [], [], _, _ => ⟨[], rfl, rfl⟩
  | y :: ys, t :: ts, hl, h => by
    refine e2x2 (h 0 y rfl) ?_; rintro q k h1 hra; subst hra
    obtain rfl : t = q := by simpa using h1
    refine e1x2 (strs_of (f := f) ys ts (by simpa using hl) fun i y e => h (i + 1) y (by simpa using e)) ?_; rintro ps h2 h3
    exact i1x2 ((S (f t), k) :: ps) (by rw [h2]; rfl) (by simp [h3])
  | [], _ :: _, hl, _ => by simp at hl
  | _ :: _, [], hl, _ => by simp at hl
theorem join_ok {g : List Nat} {ts : List Tr} {p : Nat} (hg : g.length ≤ 1) (hn : ts.length ≤ 1000) (hs : ∀ q ∈ ts, q.sz ≤ 1000) : JoinOk (S g) ((ts.map fun q => sh q [] p).map S) = true := by
  unfold JoinOk
  rw [StrLaws.joinFits (B := 3000)]
  · rfl
  · intro y hy
    refine e1x2 (List.mem_map.mp hy) ?_; rintro z hz hra; subst hra
    refine e1x2 (List.mem_map.mp hz) ?_; rintro q hq hra; subst hra
    have := sh_len q [] p
    have := hs q hq
    rw [S_len]
    simp at *
    omega
  · rw [List.length_map, List.length_map, S_len]
    have : ts.length * g.length ≤ 1000 * 1 := Nat.mul_le_mul hn hg
    omega
theorem sh_cat_p (l r : Tr) (p : Nat) : sh (.cat l r) [] p = brk (2 ≤ p) (sh (.cat l r) [] 0) := by simp [sh, addL, brk]
theorem sh_alt_p (l r : Tr) (p : Nat) : sh (.alt l r) [] p = brk (1 ≤ p) (sh (.alt l r) [] 0) := by simp [sh, addL, brk]
theorem in_brk (u : List Nat) : Str.ofString "(" ++ S u ++ Str.ofString ")" = S (40 :: (u ++ [41])) := by
  show S [40] ++ S u ++ S [41] = _
  rw [S_add, S_add]; simp
section
variable {c : Cx}
theorem T3.lLenM {A : Around} {P : Vw} {σ : St} {Q : Value → Vw → St → Prop} {E : Value → Vw → St → Prop} {a : Addr} {xs : List Value} (hm : (a, IsLi xs) ∈ σ) (hz : xs.length ≤ 100000) (h : ∀ k, Q (.int xs.length k) P σ) : T3 c A (PySem.call (.builtin "len") [.ref a]) P σ Q E := T3.lLen hm (by rw [sizeLine_eq]; omega) h
theorem show_loops_ (kf : KF c) (kg : KG c) {k0 : LK} {b0 : Tr} (ih : ∀ t : Tr, t.sz < (Tr.loop k0 b0).sz → ∀ {A : Around} {P : Vw} {x : Addr} {p : Nat} {tp : Tok}, Abc t → Room A (t.ht + 13) → t.sz ≤ 1000 → Node P (.ref x) t → T3 c A (PySem.call (.ref 960) [.ref x, .int p tp]) P [] (fun v P' σ' => (∃ k, v = .str (S (sh t [] p)) k) ∧ σ' = []) NoE)
    {A : Around} {P : Vw} {x : Addr} {p : Nat} {tp : Tok} (hab : Abc (.loop k0 b0)) (hr : Room A ((Tr.loop k0 b0).ht + 13)) (hz : (Tr.loop k0 b0).sz ≤ 1000) (h : Node P (.ref x) (.loop k0 b0)) :
    T3 c A (PySem.call (.ref 960) [.ref x, .int p tp]) P [] (fun v P' σ' => (∃ k, v = .str (S (sh (.loop k0 b0) [] p)) k) ∧ σ' = []) NoE := by
     let Q1 : KO Value := fun v P' σ' => (∃ k, v = .str (S (sh (.loop k0 b0) [] p)) k) ∧ ∃ z, σ' = [z]
     refine T3.post (Q₁ := Q1) ?_ (by rintro v P1 _ q1 ⟨hv, z, rfl⟩; exact Gs.drop (Gs.now ⟨hv, rfl⟩))
     · refine T3.d0 kf.f_show_at [(Str.ofString "level", .int p tp), (Str.ofString "node", .ref x)] hr.dep (fun _ _ _ _ _ _ => by kernel_rfl) (by kernel_rfl) fun L cdv => ?_
       have hd : Room (A.deeper (mkE (fdS (topS 63)) (Str.ofString "show_at") L 960 cdv)) ((Tr.loop k0 b0).ht + 12) := hr.deeper
       refine T3.ss1 ?_
       refine e2x3 (id h) ?_; rintro _ a0 e hi hb0
       cases e
       (with_reducible refine T3.sIf ?_; refine T3.isCmp ?_ rfl; refine T3.attr ?_ rfl); refine T3.nL (by kernel_rfl) rfl ?_
       refine T3.name kf h ?_
       refine T3.cstr ?_; intro _; (with_reducible refine T3.sEq ?_; refine T3.truB ?_)
       refine no (by cases k0 <;> kernel_rfl) ?_
       (with_reducible refine T3.ss0 ?_; refine Nx.nx ?_; refine T3.ss1 ?_; refine T3.sIf ?_; refine T3.isCmp ?_ rfl; refine T3.attr ?_ rfl); refine T3.nL (by kernel_rfl) rfl ?_
       refine T3.name kf h ?_
       refine T3.cstr ?_; intro _; (with_reducible refine T3.sEq ?_; refine T3.truB ?_)
       refine no (by cases k0 <;> kernel_rfl) ?_
       (with_reducible refine T3.ss0 ?_; refine Nx.nx ?_; refine T3.ss1 ?_; refine T3.sIf ?_; refine T3.isCmp ?_ rfl; refine T3.attr ?_ rfl); refine T3.nL (by kernel_rfl) rfl ?_
       refine T3.name kf h ?_
       refine T3.cstr ?_; intro _; (with_reducible refine T3.sEq ?_; refine T3.truB ?_)
       refine no (by cases k0 <;> kernel_rfl) ?_
       (with_reducible refine T3.ss0 ?_; refine Nx.nx ?_; refine T3.ss1 ?_; refine T3.sIf ?_; refine T3.isCmp ?_ rfl; refine T3.attr ?_ rfl); refine T3.nL (by kernel_rfl) rfl ?_
       refine T3.name kf h ?_
       refine T3.cstr ?_; intro _; (with_reducible refine T3.sEq ?_; refine T3.truB ?_)
       refine no (by cases k0 <;> kernel_rfl) ?_
       (with_reducible refine T3.ss0 ?_; refine Nx.nx ?_; refine T3.ss1 ?_; refine T3.sIf ?_; refine T3.isCmp ?_ rfl; refine T3.attr ?_ rfl); refine T3.nL (by kernel_rfl) rfl ?_
       refine T3.name kf h ?_
       refine T3.cstr ?_; intro _; (with_reducible refine T3.sEq ?_; refine T3.truB ?_)
       refine no (by cases k0 <;> kernel_rfl) ?_
       (with_reducible refine T3.ss0 ?_; refine Nx.nx ?_; refine T3.ss1 ?_); refine T3.sAsg ?_ rfl rfl rfl; (with_reducible refine T3.lst ?_ rfl; refine T3.ar0 ?_); refine T3.newLi (lit rfl) ?_; intro _ _; (with_reducible refine T3.aName ?_); refine T3.st rfl ?_ (by kernel_rfl); (with_reducible refine Nx.nx ?_; refine T3.ss1 ?_); refine T3.sAsg ?_ rfl rfl rfl; refine T3.nL (by kernel_rfl) rfl ?_; (with_reducible refine T3.aName ?_); refine T3.st rfl ?_ (by kernel_rfl); (with_reducible refine Nx.nx ?_; refine T3.ss1 ?_; refine T3.sWhile ?_)
       rename_i sl _
       have h9 : (Tr.loop k0 b0).ht = b0.ht + 1 := rfl
       have h8 : (Tr.loop k0 b0).sz = b0.sz + 1 := rfl
       let R1 : KO Result := fun r P' σ' => r = .ok .next ∧ ∃ t' y m, ∃ a : List LK, ∃ ps : List (Str × Tok), σ' = [(L, NsP m), (sl, IsLi (strValues ps))] ∧ Has m [(Str.ofString "here", .ref y), (Str.ofString "signs", .ref sl)] ∧ Node P' (.ref y) t' ∧ addL (sh t' [] 2) 0 a = sh (.loop k0 b0) [] p ∧ ps.map (·.1) = a.reverse.map (fun k => S [k.sign]) ∧
           t'.sz < (Tr.loop k0 b0).sz ∧ t'.ht < (Tr.loop k0 b0).ht ∧ t'.sz + a.length ≤ 1000 ∧ Abc t'
       let I1 : Tr → Vw → St → Prop := fun t' P' σ' => ∃ y m, ∃ a : List LK, ∃ ps : List (Str × Tok), σ' = [(L, NsP m), (sl, IsLi (strValues ps))] ∧ Has m [(Str.ofString "here", .ref y), (Str.ofString "signs", .ref sl)] ∧ Node P' (.ref y) t' ∧ sh t' a 2 = sh (.loop k0 b0) [] p ∧ ps.map (·.1) = a.reverse.map (fun k => S [k.sign]) ∧
           (a = [] → ∃ k, t' = .loop k b0) ∧ (a ≠ [] → t'.sz < (Tr.loop k0 b0).sz ∧ t'.ht < (Tr.loop k0 b0).ht) ∧ t'.sz + a.length ≤ 1000 ∧ Abc t'
       refine C3.mono (R := R1) (C3.whileM Tr.sz I1 ?_ (.loop k0 b0)
         ⟨x, _, [], [], rfl, by repeat (first | exact Has.nil | refine Has.cons rfl ?_), h, rfl, rfl, fun _ => ⟨_, rfl⟩, fun q => absurd rfl q, hz, hab⟩) ?_
       · rintro t' P1 _ l1 hqa; refine e4x9 hqa ?_; clear hqa; rintro y m a ps hra hm hn' he hps ha0 ha1 hsz hab'; subst hra
         refine T3.forget hm ?_
         refine T3.isT rfl ?_; (with_reducible refine T3.calln ?_ rfl); refine T3.nB (by assumption) (by kernel_rfl) (by boot_by_name) ?_; (with_reducible refine T3.cwB ?_; refine T3.ar1 ?_); refine T3.nL (by kernel_rfl) rfl ?_; (with_reducible refine T3.ar1 ?_); refine T3.nG (by assumption) (by kernel_rfl) rfl ?_; (with_reducible refine T3.ar0 ?_)
         rcases t'.loopOr with ⟨k, b, rfl⟩ | hnl
         · refine e2x3 (id hn') ?_; rintro _ a1 e hi' hb'
           cases e
           have hs2 : b.sz + (a.length + 1) ≤ 1000 := by rw [← Nat.add_assoc, Nat.add_right_comm]; exact hsz
           have hin : b.sz < (Tr.loop k0 b0).sz ∧ b.ht < (Tr.loop k0 b0).ht := by
             by_cases q : a = []
             · obtain ⟨k', e⟩ := ha0 q
               cases e
               exact ⟨Nat.lt_succ_self _, Nat.lt_succ_self _⟩
             · obtain ⟨h1, h2⟩ := ha1 q
               exact ⟨Nat.lt_of_succ_lt h1, Nat.lt_of_succ_lt h2⟩
           have fin : ∀ j : Tok, List.map (fun x : Str × Tok => x.1) (ps ++ [(S [k.sign], j)]) = (k :: a).reverse.map (fun k => S [k.sign]) := fun j => by
             rw [List.map_append, hps, List.reverse_cons, List.map_append]; rfl
           have hpl : (strValues ps).length ≤ 1000 := by
             have := congrArg List.length hps
             rw [List.length_map, List.length_map, List.length_reverse] at this
             rw [strValues, List.length_map, this]
             exact Nat.le_trans (Nat.le_add_left ..) hsz
           have app1 : ∀ (k : LK) (j : Tok), strValues ps ++ [Value.str (S [k.sign]) j] = strValues (ps ++ [(S [k.sign], j)]) := fun k j => by simp [strValues]
           cases k
           · refine T3.isLoopT kf rfl hi' ?_
             (with_reducible refine T3.truB ?_; refine yes rfl ?_; refine T3.ss1 ?_); refine T3.sExpr ?_ (by first | assumption | kernel_rfl) rfl; refine T3.callm ?_ rfl rfl rfl (lit rfl); refine T3.nL (by kernel_rfl) rfl ?_; refine T3.mLi F.slot_list_append F.type_list_append (List.mem_cons_of_mem _ List.mem_cons_self) ?_; (with_reducible refine T3.cwB1 ?_; refine T3.ar1 ?_; refine T3.calln ?_ rfl); refine T3.nG (by assumption) (by kernel_rfl) rfl ?_; refine T3.cw0 (by assumption) rfl ?_; (with_reducible refine T3.ar1 ?_); refine T3.nL (by kernel_rfl) rfl ?_; (with_reducible refine T3.ar0 ?_)
             refine T3.fr0 (show_loop_ kf (hd.le (Nat.le_add_left 3 _)) hn') ?_ (fun _ _ _ q => q.2)
             rintro _ P2 l2 ⟨⟨j, rfl⟩, _⟩
             (with_reducible refine T3.ar0 ?_)
             refine T3.lAppend (pre := [_]) (by rw [sizeLine_eq]; exact Nat.le_trans hpl (lit rfl)) ?_
             simp only [List.cons_append, List.nil_append, List.append_nil]
             (with_reducible refine Nx.nx ?_; refine T3.ss1 ?_); refine T3.sAsg ?_ rfl rfl rfl; (with_reducible refine T3.attr ?_ rfl); refine T3.nL (by kernel_rfl) rfl ?_; refine T3.gI (by assumption) (by (with_reducible (apply InP.le); (focus assumption); assumption)) (by first | assumption | kernel_rfl) (by kernel_rfl) rfl (by first | rfl | assumption) ?_; (with_reducible refine T3.aName ?_); refine T3.st rfl ?_ (by kernel_rfl); (with_reducible refine Nx.nx ?_; refine T3.ss0 ?_)
             rw [app1]
             exact i1x2 b (Nat.lt_succ_self _) (i4x9 a1 _ (_ :: a) _ rfl (by repeat (first | exact Has.nil | refine Has.cons rfl ?_)) (hb'.le l2) he (fin j) (fun q => absurd q (by simp)) (fun _ => hin) hs2 hab')
           · refine T3.isLoopT kf rfl hi' ?_
             (with_reducible refine T3.truB ?_; refine yes rfl ?_; refine T3.ss1 ?_); refine T3.sExpr ?_ (by first | assumption | kernel_rfl) rfl; refine T3.callm ?_ rfl rfl rfl (lit rfl); refine T3.nL (by kernel_rfl) rfl ?_; refine T3.mLi F.slot_list_append F.type_list_append (List.mem_cons_of_mem _ List.mem_cons_self) ?_; (with_reducible refine T3.cwB1 ?_; refine T3.ar1 ?_; refine T3.calln ?_ rfl); refine T3.nG (by assumption) (by kernel_rfl) rfl ?_; refine T3.cw0 (by assumption) rfl ?_; (with_reducible refine T3.ar1 ?_); refine T3.nL (by kernel_rfl) rfl ?_; (with_reducible refine T3.ar0 ?_)
             refine T3.fr0 (show_loop_ kf (hd.le (Nat.le_add_left 3 _)) hn') ?_ (fun _ _ _ q => q.2)
             rintro _ P2 l2 ⟨⟨j, rfl⟩, _⟩
             (with_reducible refine T3.ar0 ?_)
             refine T3.lAppend (pre := [_]) (by rw [sizeLine_eq]; exact Nat.le_trans hpl (lit rfl)) ?_
             simp only [List.cons_append, List.nil_append, List.append_nil]
             (with_reducible refine Nx.nx ?_; refine T3.ss1 ?_); refine T3.sAsg ?_ rfl rfl rfl; (with_reducible refine T3.attr ?_ rfl); refine T3.nL (by kernel_rfl) rfl ?_; refine T3.gI (by assumption) (by (with_reducible (apply InP.le); (focus assumption); assumption)) (by first | assumption | kernel_rfl) (by kernel_rfl) rfl (by first | rfl | assumption) ?_; (with_reducible refine T3.aName ?_); refine T3.st rfl ?_ (by kernel_rfl); (with_reducible refine Nx.nx ?_; refine T3.ss0 ?_)
             rw [app1]
             exact i1x2 b (Nat.lt_succ_self _) (i4x9 a1 _ (_ :: a) _ rfl (by repeat (first | exact Has.nil | refine Has.cons rfl ?_)) (hb'.le l2) he (fin j) (fun q => absurd q (by simp)) (fun _ => hin) hs2 hab')
           · refine T3.isLoopT kf rfl hi' ?_
             (with_reducible refine T3.truB ?_; refine yes rfl ?_; refine T3.ss1 ?_); refine T3.sExpr ?_ (by first | assumption | kernel_rfl) rfl; refine T3.callm ?_ rfl rfl rfl (lit rfl); refine T3.nL (by kernel_rfl) rfl ?_; refine T3.mLi F.slot_list_append F.type_list_append (List.mem_cons_of_mem _ List.mem_cons_self) ?_; (with_reducible refine T3.cwB1 ?_; refine T3.ar1 ?_; refine T3.calln ?_ rfl); refine T3.nG (by assumption) (by kernel_rfl) rfl ?_; refine T3.cw0 (by assumption) rfl ?_; (with_reducible refine T3.ar1 ?_); refine T3.nL (by kernel_rfl) rfl ?_; (with_reducible refine T3.ar0 ?_)
             refine T3.fr0 (show_loop_ kf (hd.le (Nat.le_add_left 3 _)) hn') ?_ (fun _ _ _ q => q.2)
             rintro _ P2 l2 ⟨⟨j, rfl⟩, _⟩
             (with_reducible refine T3.ar0 ?_)
             refine T3.lAppend (pre := [_]) (by rw [sizeLine_eq]; exact Nat.le_trans hpl (lit rfl)) ?_
             simp only [List.cons_append, List.nil_append, List.append_nil]
             (with_reducible refine Nx.nx ?_; refine T3.ss1 ?_); refine T3.sAsg ?_ rfl rfl rfl; (with_reducible refine T3.attr ?_ rfl); refine T3.nL (by kernel_rfl) rfl ?_; refine T3.gI (by assumption) (by (with_reducible (apply InP.le); (focus assumption); assumption)) (by first | assumption | kernel_rfl) (by kernel_rfl) rfl (by first | rfl | assumption) ?_; (with_reducible refine T3.aName ?_); refine T3.st rfl ?_ (by kernel_rfl); (with_reducible refine Nx.nx ?_; refine T3.ss0 ?_)
             rw [app1]
             exact i1x2 b (Nat.lt_succ_self _) (i4x9 a1 _ (_ :: a) _ rfl (by repeat (first | exact Has.nil | refine Has.cons rfl ?_)) (hb'.le l2) he (fin j) (fun q => absurd q (by simp)) (fun _ => hin) hs2 hab')
         · refine e1x2 (hn'.inst) ?_; rintro fs5 hi' _
           obtain ⟨q1, q2⟩ := Tr.noLoop hnl
           refine T3.isUser (C := t'.cls) kf kg t'.inTab.1 q1 kf.loopC.1 kf.loopC.2.1 kf.loopC.2.2 (kf.loopF t'.cls q2) hi' ?_
           have h1 : a ≠ [] := fun q => by obtain ⟨k, e⟩ := ha0 q; exact hnl k b0 e
           (with_reducible refine T3.truB ?_; refine no rfl ?_; refine T3.ss0 ?_)
           exact ⟨rfl, i5x9 _ y _ a ps rfl (by repeat (first | exact Has.nil | refine Has.cons rfl ?_)) hn' ((sh_acc t' a 2 hnl).symm.trans he) hps ((ha1 h1).1) ((ha1 h1).2) hsz hab'⟩
       · rintro r P1 _ l1 hqa; obtain ⟨rfl, hqb⟩ := hqa; refine e5x9 hqb ?_; clear hqb; rintro t' y m a ps hra hm hn' he hps g1 g2 hsz hab'; subst hra
         show Nx _ _ _ _ _ _ _ _ _
         refine Nx.nx ?_
         refine T3.forget hm ?_
         (with_reducible refine T3.ss1 ?_); refine T3.sAsg ?_ rfl rfl rfl; (with_reducible refine T3.calln ?_ rfl); refine T3.nG (by assumption) (by kernel_rfl) rfl ?_; refine T3.cw0 (by assumption) rfl ?_; (with_reducible refine T3.ar1 ?_); refine T3.nL (by kernel_rfl) rfl ?_; (with_reducible refine T3.ar1 ?_); refine T3.nG (by assumption) (by kernel_rfl) rfl ?_; (with_reducible refine T3.ar0 ?_)
         refine T3.fr0 (ih t' g1 (p := 2) (tp := 892) hab' (hd.le (by omega)) (by omega) hn') ?_ (fun _ _ _ q => q.2)
         rintro _ P2 l2 ⟨⟨k2, rfl⟩, _⟩
         (with_reducible refine T3.aName ?_); refine T3.st rfl ?_ (by kernel_rfl); (with_reducible refine Nx.nx ?_; refine T3.ss1 ?_); refine T3.sFor ?_ (fun _ => rfl); (with_reducible refine T3.calln ?_ rfl); refine T3.nB (by assumption) (by kernel_rfl) (by boot_by_name) ?_; (with_reducible refine T3.cwT ?_; refine T3.ar1 ?_; refine T3.calln ?_ rfl); refine T3.nB (by assumption) (by kernel_rfl) (by boot_by_name) ?_; (with_reducible refine T3.cwB ?_; refine T3.ar1 ?_); refine T3.nL (by kernel_rfl) rfl ?_; (with_reducible refine T3.ar0 ?_)
         have hpl : (strValues ps).length = a.length := by have := congrArg List.length hps; simpa [strValues] using this
         have hal9 : a.length ≤ 1000 := Nat.le_trans (Nat.le_add_left ..) hsz
         refine T3.lLenM (xs := strValues ps) (by exact (List.mem_cons_of_mem _ List.mem_cons_self)) (by rw [hpl]; exact Nat.le_trans hal9 (lit rfl)) fun _ => ?_
         (with_reducible refine T3.ar0 ?_)
         rw [hpl]
         refine T3.newRa fun ra P3 l3 hra => ?_
         have hsl : (sh t' [] 2).length ≤ 3000 := Nat.le_trans (sh_len t' [] 2) (Nat.mul_le_mul_left 3 (Nat.le_trans (Nat.le_add_right ..) hsz))
         let I2 : Nat → Vw → St → Prop := fun i P' σ' => ∃ m, ∃ ps' : List (Str × Tok), ∃ kt, σ' = [(L, NsP m), (sl, IsLi (strValues ps'))] ∧ Has m [(Str.ofString "text", .str (S (addL (sh t' [] 2) 0 (a.take i))) kt), (Str.ofString "signs", .ref sl)] ∧ ps'.map (·.1) = (a.drop i).reverse.map (fun k => S [k.sign])
         refine T3.itRa (n := a.length) hra (Nat.lt_of_le_of_lt hal9 (by decide)) hd.no I2
           ⟨_, ps, _, rfl, by repeat (first | exact Has.nil | refine Has.cons rfl ?_), hps⟩ ⟨?_, ?_⟩
         · rintro i v P4 _ l4 hi ⟨tk, rfl⟩ hqa; refine e3x3 hqa ?_; clear hqa; rintro m4 ps4 kt hra hm4 hps4; subst hra
           refine T3.forget hm4 ?_
           (with_reducible refine T3.aName ?_); refine T3.st rfl ?_ (by kernel_rfl); (with_reducible refine T3.ss1 ?_; refine T3.sIf ?_; refine T3.isBool ?_; refine T3.and1 ?_; refine T3.isCmp ?_ rfl); refine T3.nL (by kernel_rfl) rfl ?_; refine T3.cint ?_; intro _; (with_reducible refine T3.iGt ?_; refine T3.truB ?_)
           have hal : (addL (sh t' [] 2) 0 (a.take i)).length ≤ 6000 := Nat.le_trans (addL_len (a.take i) (sh t' [] 2) 0) (Nat.add_le_add hsl (Nat.mul_le_mul_left 3 (show (a.take i).length ≤ 1000 by rw [List.length_take]; exact Nat.le_trans (Nat.min_le_right ..) hal9)))
           have htk : a.take (i + 1) = a.take i ++ [a[i]] := by rw [List.take_add_one, List.getElem?_eq_getElem hi]; rfl
           have hsn := addL_snoc a[i] (a.take i) (sh t' [] 2) 0
           rw [List.length_take, Nat.zero_add, Nat.min_eq_left (Nat.le_of_lt hi), ← htk] at hsn
           have hdr : (a.drop i).reverse = (a.drop (i + 1)).reverse ++ [a[i]] := by rw [List.drop_eq_getElem_cons hi, List.reverse_cons]
           rw [hdr, List.map_append] at hps4
           obtain ⟨ps5, lst, rfl⟩ : ∃ ps5 lst, ps4 = ps5 ++ [lst] := by
             rcases List.eq_nil_or_concat ps4 with rfl | ⟨u, w, rfl⟩
             · have := congrArg List.length hps4; simp at this
             · exact i2x1 u w (by simp)
           rw [List.map_append, List.map_singleton, List.map_singleton] at hps4
           obtain ⟨e5, e6⟩ := List.append_inj' hps4 rfl
           obtain ⟨w6, k6⟩ := lst
           obtain rfl : w6 = S [a[i].sign] := by simpa using e6
           have hpl5 : (strValues ps5).length < 16777216 := by
             have := congrArg List.length e5
             rw [List.length_map, List.length_map, List.length_reverse, List.length_drop] at this
             rw [strValues, List.length_map, this]
             exact Nat.lt_of_le_of_lt (Nat.le_trans (Nat.sub_le ..) hal9) (by decide)
           have esv : strValues (ps5 ++ [(S [a[i].sign], k6)]) = strValues ps5 ++ [Value.str (S [a[i].sign]) k6] := by simp [strValues]
           rw [esv]
           by_cases h0 : 0 < i
           · refine yes (by simp; omega) ?_
             (with_reducible refine T3.and1 ?_; refine T3.isCmp ?_ rfl; refine T3.binop ?_); refine T3.nL (by kernel_rfl) rfl ?_; refine T3.nG (by assumption) (by kernel_rfl) rfl ?_
             refine T3.iMod (by decide) fun _ => ?_
             refine T3.cint ?_; intro _; (with_reducible refine T3.iEq ?_; refine T3.truB ?_)
             by_cases hm : i % 20 = 0
             · refine yes (by simp; omega) ?_
               (with_reducible refine T3.and0 ?_; refine yes rfl ?_; refine T3.ss1 ?_); refine T3.sAsg ?_ rfl rfl rfl; (with_reducible refine T3.binop ?_; refine T3.binop ?_); refine T3.cstr ?_; intro _; refine T3.nL (by kernel_rfl) rfl ?_
               refine T3.sAdd (by rw [sizeLine_eq, S_len]; exact Nat.add_le_add_left (Nat.le_trans hal (lit (m := 16777215) rfl)) 1) fun _ => ?_
               refine T3.cstr ?_; intro _
               refine T3.sAdd (by rw [sizeLine_eq]; show (S [40] ++ S _).length + 1 ≤ _; rw [S_add, S_len]; exact Nat.add_le_add_right (Nat.add_le_add_right (Nat.le_trans hal (lit (m := 16777214) rfl)) 1) 1) fun _ => ?_
               (with_reducible refine T3.aName ?_); refine T3.st rfl ?_ (by kernel_rfl); (with_reducible refine Nx.nx ?_; refine T3.ss0 ?_; refine Nx.nx ?_; refine T3.ss1 ?_); refine T3.sAsg ?_ rfl rfl rfl; (with_reducible refine T3.binop ?_); refine T3.nL (by kernel_rfl) rfl ?_; refine T3.callm ?_ rfl rfl rfl (lit rfl); refine T3.nL (by kernel_rfl) rfl ?_; refine T3.mLi F.slot_list_pop F.type_list_pop (List.mem_cons_of_mem _ List.mem_cons_self) ?_; (with_reducible refine T3.cwB10 ?_)
               rw [in_brk]
               refine T3.lPop (pre := [_]) (by rw [sizeLine_eq]; exact hpl5) ?_
               simp only [List.cons_append, List.nil_append, List.append_nil]
               refine T3.sAdd (by rw [sizeLine_eq, S_len, S_len, List.length_cons, List.length_append]; exact Nat.add_le_add_right (Nat.add_le_add_right (Nat.add_le_add_right (Nat.le_trans hal (lit (m := 16777213) rfl)) 1) 1) 1) fun _ => ?_
               (with_reducible refine T3.aName ?_); refine T3.st rfl ?_ (by kernel_rfl); (with_reducible refine Nx.nx ?_; refine T3.ss0 ?_)
               refine i3x3 _ ps5 _ rfl (by rw [S_add]; rw [hsn, brk, if_pos ⟨h0, hm⟩]; repeat (first | exact Has.nil | refine Has.cons rfl ?_)) e5
             · refine no (by simp; omega) ?_
               (with_reducible refine no rfl ?_; refine T3.ss0 ?_; refine Nx.nx ?_; refine T3.ss1 ?_); refine T3.sAsg ?_ rfl rfl rfl; (with_reducible refine T3.binop ?_); refine T3.nL (by kernel_rfl) rfl ?_; refine T3.callm ?_ rfl rfl rfl (lit rfl); refine T3.nL (by kernel_rfl) rfl ?_; refine T3.mLi F.slot_list_pop F.type_list_pop (List.mem_cons_of_mem _ List.mem_cons_self) ?_; (with_reducible refine T3.cwB10 ?_)
               refine T3.lPop (pre := [_]) (by rw [sizeLine_eq]; exact hpl5) ?_
               simp only [List.cons_append, List.nil_append, List.append_nil]
               refine T3.sAdd (by rw [sizeLine_eq, S_len, S_len]; exact Nat.add_le_add_right (Nat.le_trans hal (lit (m := 16777215) rfl)) 1) fun _ => ?_
               (with_reducible refine T3.aName ?_); refine T3.st rfl ?_ (by kernel_rfl); (with_reducible refine Nx.nx ?_; refine T3.ss0 ?_)
               refine i3x3 _ ps5 _ rfl (by rw [S_add]; rw [hsn, brk, if_neg (fun q => hm q.2)]; repeat (first | exact Has.nil | refine Has.cons rfl ?_)) e5
           · refine no (by simp; omega) ?_
             (with_reducible refine no rfl ?_; refine T3.ss0 ?_; refine Nx.nx ?_; refine T3.ss1 ?_); refine T3.sAsg ?_ rfl rfl rfl; (with_reducible refine T3.binop ?_); refine T3.nL (by kernel_rfl) rfl ?_; refine T3.callm ?_ rfl rfl rfl (lit rfl); refine T3.nL (by kernel_rfl) rfl ?_; refine T3.mLi F.slot_list_pop F.type_list_pop (List.mem_cons_of_mem _ List.mem_cons_self) ?_; (with_reducible refine T3.cwB10 ?_)
             refine T3.lPop (pre := [_]) (by rw [sizeLine_eq]; exact hpl5) ?_
             simp only [List.cons_append, List.nil_append, List.append_nil]
             refine T3.sAdd (by rw [sizeLine_eq, S_len, S_len]; exact Nat.add_le_add_right (Nat.le_trans hal (lit (m := 16777215) rfl)) 1) fun _ => ?_
             (with_reducible refine T3.aName ?_); refine T3.st rfl ?_ (by kernel_rfl); (with_reducible refine Nx.nx ?_; refine T3.ss0 ?_)
             refine i3x3 _ ps5 _ rfl (by rw [S_add]; rw [hsn, brk, if_neg (fun q => h0 q.1)]; repeat (first | exact Has.nil | refine Has.cons rfl ?_)) e5
         · rintro P4 _ l4 hqa; refine e3x3 hqa ?_; clear hqa; rintro m4 ps4 kt hra hm4 hps4; subst hra
           refine T3.forget hm4 ?_
           (with_reducible refine T3.ss0 ?_; refine Nx.nx ?_; refine T3.ss1 ?_; refine T3.sRet ?_); refine T3.nL (by kernel_rfl) rfl ?_; (with_reducible refine Nx.ret ?_)
           rw [List.take_length, he]
           exact Bk.mk ⟨⟨_, rfl⟩, _, rfl⟩
end
section
variable {c : Cx}
theorem show_at_ (kf : KF c) (kg : KG c) : ∀ (n : Nat) (t : Tr), t.sz ≤ n → ∀ {A : Around} {P : Vw} {x : Addr} {p : Nat} {tp : Tok}, Abc t → Room A (t.ht + 13) → t.sz ≤ 1000 → Node P (.ref x) t → T3 c A (PySem.call (.ref 960) [.ref x, .int p tp]) P [] (fun v P' σ' => (∃ k, v = .str (S (sh t [] p)) k) ∧ σ' = []) NoE := by
  intro n
  induction n with
  | zero => intro t h; exact absurd h (by have := t.sz_pos; omega)
  | succ n ih =>
    intro t hn A P x p tp hab hr hz h
    by_cases hlp : ∃ k b, t = .loop k b
    · refine e2x1 (hlp) ?_; rintro k0 b0 hra; subst hra
      exact show_loops_ kf kg (fun t' ht' => ih t' (by omega)) hab hr hz h
    refine T3.d0 kf.f_show_at [(Str.ofString "level", .int p tp), (Str.ofString "node", .ref x)] hr.dep (fun _ _ _ _ _ _ => by kernel_rfl) (by kernel_rfl) fun L cdv => ?_
    have hd : Room (A.deeper (mkE (fdS (topS 63)) (Str.ofString "show_at") L 960 cdv)) (t.ht + 12) := hr.deeper
    refine T3.ss1 ?_
    cases t with
    | chr ch =>
      refine e2x3 (h) ?_; rintro _ s e hi hs
      cases e
      (with_reducible refine T3.sIf ?_; refine T3.isCmp ?_ rfl; refine T3.attr ?_ rfl); refine T3.nL (by kernel_rfl) rfl ?_; refine T3.gC (by assumption) (by with_reducible assumption) (by first | assumption | kernel_rfl) rfl rfl rfl (by kernel_rfl) ?_; refine T3.cstr ?_; intro _; (with_reducible refine T3.sEq ?_; refine T3.truB ?_; refine no rfl ?_; refine T3.ss0 ?_; refine Nx.nx ?_; refine T3.ss1 ?_; refine T3.sIf ?_; refine T3.isCmp ?_ rfl; refine T3.attr ?_ rfl); refine T3.nL (by kernel_rfl) rfl ?_; refine T3.gC (by assumption) (by with_reducible assumption) (by first | assumption | kernel_rfl) rfl rfl rfl (by kernel_rfl) ?_; refine T3.cstr ?_; intro _; (with_reducible refine T3.sEq ?_; refine T3.truB ?_; refine no rfl ?_; refine T3.ss0 ?_; refine Nx.nx ?_; refine T3.ss1 ?_; refine T3.sIf ?_; refine T3.isCmp ?_ rfl; refine T3.attr ?_ rfl); refine T3.nL (by kernel_rfl) rfl ?_; refine T3.gC (by assumption) (by with_reducible assumption) (by first | assumption | kernel_rfl) rfl rfl rfl (by kernel_rfl) ?_; refine T3.cstr ?_; intro _; (with_reducible refine T3.sEq ?_; refine T3.truB ?_; refine yes rfl ?_; refine T3.ss1 ?_; refine T3.sRet ?_; refine T3.calln ?_ rfl); refine T3.nG (by assumption) (by kernel_rfl) rfl ?_; refine T3.cw0 (by assumption) rfl ?_; (with_reducible refine T3.ar1 ?_; refine T3.attr ?_ rfl); refine T3.nL (by kernel_rfl) rfl ?_; refine T3.gI (by assumption) (by with_reducible assumption) (by first | assumption | kernel_rfl) (by kernel_rfl) rfl (by first | rfl | assumption) ?_; (with_reducible refine T3.ar0 ?_)
      refine T3.fr0 (show_chars_ kf (hd.le (lit rfl)) hs hab) ?_ (fun _ _ _ q => q.2)
      rintro _ P1 l1 ⟨⟨k, rfl⟩, _⟩
      (with_reducible refine Nx.ret ?_; refine Nx.ret ?_)
      exact Bk.mk ⟨⟨_, rfl⟩, rfl⟩
    | emp =>
      refine e1x2 (h) ?_; rintro _ e hi
      cases e
      (with_reducible refine T3.sIf ?_; refine T3.isCmp ?_ rfl; refine T3.attr ?_ rfl); refine T3.nL (by kernel_rfl) rfl ?_; refine T3.gC (by assumption) (by with_reducible assumption) (by first | assumption | kernel_rfl) rfl rfl rfl (by kernel_rfl) ?_; refine T3.cstr ?_; intro _; (with_reducible refine T3.sEq ?_; refine T3.truB ?_; refine yes rfl ?_; refine T3.ss1 ?_; refine T3.sRet ?_); refine T3.cstr ?_; intro _; (with_reducible refine Nx.ret ?_; refine Nx.ret ?_)
      exact Bk.mk ⟨⟨_, rfl⟩, rfl⟩
    | cat l r =>
      have h0 := h
      refine e3x4 (h0) ?_; rintro _ a b e hi hl hrr
      cases e
      (with_reducible refine T3.sIf ?_; refine T3.isCmp ?_ rfl; refine T3.attr ?_ rfl); refine T3.nL (by kernel_rfl) rfl ?_; refine T3.gC (by assumption) (by with_reducible assumption) (by first | assumption | kernel_rfl) rfl rfl rfl (by kernel_rfl) ?_; refine T3.cstr ?_; intro _; (with_reducible refine T3.sEq ?_; refine T3.truB ?_; refine no rfl ?_; refine T3.ss0 ?_; refine Nx.nx ?_; refine T3.ss1 ?_; refine T3.sIf ?_; refine T3.isCmp ?_ rfl; refine T3.attr ?_ rfl); refine T3.nL (by kernel_rfl) rfl ?_; refine T3.gC (by assumption) (by with_reducible assumption) (by first | assumption | kernel_rfl) rfl rfl rfl (by kernel_rfl) ?_; refine T3.cstr ?_; intro _; (with_reducible refine T3.sEq ?_; refine T3.truB ?_; refine no rfl ?_; refine T3.ss0 ?_; refine Nx.nx ?_; refine T3.ss1 ?_; refine T3.sIf ?_; refine T3.isCmp ?_ rfl; refine T3.attr ?_ rfl); refine T3.nL (by kernel_rfl) rfl ?_; refine T3.gC (by assumption) (by with_reducible assumption) (by first | assumption | kernel_rfl) rfl rfl rfl (by kernel_rfl) ?_; refine T3.cstr ?_; intro _; (with_reducible refine T3.sEq ?_; refine T3.truB ?_; refine no rfl ?_; refine T3.ss0 ?_; refine Nx.nx ?_; refine T3.ss1 ?_; refine T3.sIf ?_; refine T3.isCmp ?_ rfl; refine T3.attr ?_ rfl); refine T3.nL (by kernel_rfl) rfl ?_; refine T3.gC (by assumption) (by with_reducible assumption) (by first | assumption | kernel_rfl) rfl rfl rfl (by kernel_rfl) ?_; refine T3.cstr ?_; intro _; (with_reducible refine T3.sEq ?_; refine T3.truB ?_; refine no rfl ?_; refine T3.ss0 ?_; refine Nx.nx ?_; refine T3.ss1 ?_; refine T3.sIf ?_; refine T3.isCmp ?_ rfl; refine T3.attr ?_ rfl); refine T3.nL (by kernel_rfl) rfl ?_; refine T3.gC (by assumption) (by with_reducible assumption) (by first | assumption | kernel_rfl) rfl rfl rfl (by kernel_rfl) ?_; refine T3.cstr ?_; intro _; (with_reducible refine T3.sEq ?_; refine T3.truB ?_; refine yes rfl ?_; refine T3.ss1 ?_); refine T3.sAsg ?_ rfl rfl rfl; refine T3.callm ?_ rfl rfl rfl (lit rfl); refine T3.cstr ?_; intro _; refine T3.mStr F.slot_str_join F.type_str_join ?_; (with_reducible refine T3.cwB1 ?_; refine T3.ar1 ?_)
      refine T3.eLC (cl := []) hd.no (fun _ => rfl) rfl (by kernel_rfl) rfl (by kernel_rfl) rfl ?_
      (with_reducible refine T3.calln ?_ rfl); refine T3.nG (by assumption) (by kernel_rfl) rfl ?_; refine T3.cw0 (by assumption) rfl ?_; (with_reducible refine T3.ar1 ?_); refine T3.nL (by kernel_rfl) rfl ?_; (with_reducible refine T3.ar0 ?_)
      refine T3.fr0 (spine_ kf (hd.le (lit rfl)) .cat (l := l) (r := r) h (by have : (mkp .cat l r).sz = (Tr.cat l r).sz := rfl; omega)) ?_ (fun _ _ _ q => q.2)
      rintro _ P1 l1 hqa; obtain ⟨hqb, _⟩ := hqa; refine e2x3 hqb ?_; clear hqb; rintro ra xs hra hls hns0; subst hra
      have hns : Nodes P1 xs (spl .cat (.cat l r)) := hns0
      have subs : ∀ q, q ∈ spl .cat (.cat l r) → q.ht < (Tr.cat l r).ht ∧ q.sz < (Tr.cat l r).sz := fun q hq => mkp_sub .cat l r q hq
      have hlen := spl_len .cat (.cat l r)
      refine ⟨xs.length, _, fun i y P' => ∃ q k, (spl .cat (.cat l r))[i]? = some q ∧ y = .str (S (sh q [] 2)) k, ⟨ItK.li hls, by have := hns.len; rw [sizeLine_eq]; omega, ?_, ?_, ?_⟩⟩
      · rintro i y P2 P3 l hqa; refine e2x2 hqa ?_; clear hqa; rintro q k h1 h2
        exact i2x2 q k h1 h2
      · intro C i v P2 l2 hil hvi
        refine e1x2 (hns.at hvi) ?_; rintro q hq hqn
        obtain ⟨z, rfl⟩ := hqn.ref
        have sq := subs q (List.mem_of_getElem? hq)
        (with_reducible refine T3.calln ?_ rfl); refine T3.nG (by assumption) (by kernel_rfl) rfl ?_; refine T3.cw0 (by assumption) rfl ?_; (with_reducible refine T3.ar1 ?_); refine T3.nL (by kernel_rfl) rfl ?_; (with_reducible refine T3.ar1 ?_); refine T3.nG (by assumption) (by kernel_rfl) rfl ?_; (with_reducible refine T3.ar0 ?_)
        refine T3.fr0 (ih q (by omega) (p := 2) (tp := 892) (Abc.spl .cat (t := .cat l r) hab q (List.mem_of_getElem? hq)) (hd.le (by omega)) (by omega) (hqn.le l2)) ?_ (fun _ _ _ q => q.2)
        rintro _ P3 l3 ⟨⟨k, rfl⟩, _⟩
        exact ⟨rfl, i2x2 q k hq rfl⟩
      · intro Dl ys P2 l2 hly hF
        show T3 c _ _ _ _ _ _
        (with_reducible refine T3.ar0 ?_)
        refine T3.freezeLi (pre := [_]) fun P3 l3 hb => ?_
        simp only [List.cons_append, List.nil_append, List.append_nil]
        obtain ⟨ps, rfl, hps⟩ := strs_of (f := fun q => sh q [] 2) ys (spl .cat (.cat l r)) (by rw [hly]; exact hns.len) hF
        have hj : Txt.join (Str.ofString "") (ps.map (·.1)) = S (sh (.cat l r) [] 0) := by
          rw [hps]
          show Txt.join (S (sepOf .cat)) _ = _
          rw [join_gl]
          exact congrArg S (gl_spl .cat (.cat l r))
        refine T3.sJoin hb (by
          rw [hps]
          exact join_ok (g := []) (by simp) (by omega) (fun q hq => by have := (subs q hq).2; omega)) fun _ => ?_
        rw [hj]
        (with_reducible refine T3.aName ?_); refine T3.st rfl ?_ (by kernel_rfl); (with_reducible refine Nx.nx ?_; refine T3.ss1 ?_; refine T3.sIf ?_; refine T3.isCmp ?_ rfl); refine T3.nL (by kernel_rfl) rfl ?_; refine T3.nG (by assumption) (by kernel_rfl) rfl ?_; (with_reducible refine T3.iGt ?_; refine T3.truB ?_)
        by_cases hp : 2 ≤ p
        · refine yes (by simp; omega) ?_
          (with_reducible refine T3.ss1 ?_; refine T3.sRet ?_; refine T3.binop ?_; refine T3.binop ?_); refine T3.cstr ?_; intro _; refine T3.nL (by kernel_rfl) rfl ?_
          have hsl := sh_len (.cat l r) [] 0
          simp only [List.length_nil] at hsl
          refine T3.sAdd (by rw [sizeLine_eq, S_len]; show 1 + _ ≤ _; omega) fun _ => ?_
          refine T3.cstr ?_; intro _
          refine T3.sAdd (by rw [sizeLine_eq]; show (S [40] ++ S _).length + 1 ≤ _; rw [S_add, S_len]; simp; omega) fun _ => ?_
          (with_reducible refine Nx.ret ?_; refine Nx.ret ?_; refine Nx.ret ?_)
          rw [in_brk, show 40 :: (sh (.cat l r) [] 0 ++ [41]) = sh (.cat l r) [] p by rw [sh_cat_p l r p, brk, if_pos hp]]
          exact Bk.mk ⟨⟨_, rfl⟩, rfl⟩
        · refine no (by simp; omega) ?_
          (with_reducible refine T3.ss0 ?_; refine Nx.nx ?_; refine T3.ss1 ?_; refine T3.sRet ?_); refine T3.nL (by kernel_rfl) rfl ?_; (with_reducible refine Nx.ret ?_; refine Nx.ret ?_)
          rw [show sh (.cat l r) [] 0 = sh (.cat l r) [] p by rw [sh_cat_p l r p, brk, if_neg hp]]
          exact Bk.mk ⟨⟨_, rfl⟩, rfl⟩
    | alt l r =>
      have h0 := h
      refine e3x4 (h0) ?_; rintro _ a b e hi hl hrr
      cases e
      (with_reducible refine T3.sIf ?_; refine T3.isCmp ?_ rfl; refine T3.attr ?_ rfl); refine T3.nL (by kernel_rfl) rfl ?_; refine T3.gC (by assumption) (by with_reducible assumption) (by first | assumption | kernel_rfl) rfl rfl rfl (by kernel_rfl) ?_; refine T3.cstr ?_; intro _; (with_reducible refine T3.sEq ?_; refine T3.truB ?_; refine no rfl ?_; refine T3.ss0 ?_; refine Nx.nx ?_; refine T3.ss1 ?_; refine T3.sIf ?_; refine T3.isCmp ?_ rfl; refine T3.attr ?_ rfl); refine T3.nL (by kernel_rfl) rfl ?_; refine T3.gC (by assumption) (by with_reducible assumption) (by first | assumption | kernel_rfl) rfl rfl rfl (by kernel_rfl) ?_; refine T3.cstr ?_; intro _; (with_reducible refine T3.sEq ?_; refine T3.truB ?_; refine no rfl ?_; refine T3.ss0 ?_; refine Nx.nx ?_; refine T3.ss1 ?_; refine T3.sIf ?_; refine T3.isCmp ?_ rfl; refine T3.attr ?_ rfl); refine T3.nL (by kernel_rfl) rfl ?_; refine T3.gC (by assumption) (by with_reducible assumption) (by first | assumption | kernel_rfl) rfl rfl rfl (by kernel_rfl) ?_; refine T3.cstr ?_; intro _; (with_reducible refine T3.sEq ?_; refine T3.truB ?_; refine no rfl ?_; refine T3.ss0 ?_; refine Nx.nx ?_; refine T3.ss1 ?_; refine T3.sIf ?_; refine T3.isCmp ?_ rfl; refine T3.attr ?_ rfl); refine T3.nL (by kernel_rfl) rfl ?_; refine T3.gC (by assumption) (by with_reducible assumption) (by first | assumption | kernel_rfl) rfl rfl rfl (by kernel_rfl) ?_; refine T3.cstr ?_; intro _; (with_reducible refine T3.sEq ?_; refine T3.truB ?_; refine yes rfl ?_; refine T3.ss1 ?_); refine T3.sAsg ?_ rfl rfl rfl; refine T3.callm ?_ rfl rfl rfl (lit rfl); refine T3.cstr ?_; intro _; refine T3.mStr F.slot_str_join F.type_str_join ?_; (with_reducible refine T3.cwB1 ?_; refine T3.ar1 ?_)
      refine T3.eLC (cl := []) hd.no (fun _ => rfl) rfl (by kernel_rfl) rfl (by kernel_rfl) rfl ?_
      (with_reducible refine T3.calln ?_ rfl); refine T3.nG (by assumption) (by kernel_rfl) rfl ?_; refine T3.cw0 (by assumption) rfl ?_; (with_reducible refine T3.ar1 ?_); refine T3.nL (by kernel_rfl) rfl ?_; (with_reducible refine T3.ar0 ?_)
      refine T3.fr0 (spine_ kf (hd.le (lit rfl)) .alt (l := l) (r := r) h (by have : (mkp .alt l r).sz = (Tr.alt l r).sz := rfl; omega)) ?_ (fun _ _ _ q => q.2)
      rintro _ P1 l1 hqa; obtain ⟨hqb, _⟩ := hqa; refine e2x3 hqb ?_; clear hqb; rintro ra xs hra hls hns0; subst hra
      have hns : Nodes P1 xs (spl .alt (.alt l r)) := hns0
      have subs : ∀ q, q ∈ spl .alt (.alt l r) → q.ht < (Tr.alt l r).ht ∧ q.sz < (Tr.alt l r).sz := fun q hq => mkp_sub .alt l r q hq
      have hlen := spl_len .alt (.alt l r)
      refine ⟨xs.length, _, fun i y P' => ∃ q k, (spl .alt (.alt l r))[i]? = some q ∧ y = .str (S (sh q [] 1)) k, ⟨ItK.li hls, by have := hns.len; rw [sizeLine_eq]; omega, ?_, ?_, ?_⟩⟩
      · rintro i y P2 P3 l hqa; refine e2x2 hqa ?_; clear hqa; rintro q k h1 h2
        exact i2x2 q k h1 h2
      · intro C i v P2 l2 hil hvi
        refine e1x2 (hns.at hvi) ?_; rintro q hq hqn
        obtain ⟨z, rfl⟩ := hqn.ref
        have sq := subs q (List.mem_of_getElem? hq)
        (with_reducible refine T3.calln ?_ rfl); refine T3.nG (by assumption) (by kernel_rfl) rfl ?_; refine T3.cw0 (by assumption) rfl ?_; (with_reducible refine T3.ar1 ?_); refine T3.nL (by kernel_rfl) rfl ?_; (with_reducible refine T3.ar1 ?_); refine T3.nG (by assumption) (by kernel_rfl) rfl ?_; (with_reducible refine T3.ar0 ?_)
        refine T3.fr0 (ih q (by omega) (p := 1) (tp := 890) (Abc.spl .alt (t := .alt l r) hab q (List.mem_of_getElem? hq)) (hd.le (by omega)) (by omega) (hqn.le l2)) ?_ (fun _ _ _ q => q.2)
        rintro _ P3 l3 ⟨⟨k, rfl⟩, _⟩
        exact ⟨rfl, i2x2 q k hq rfl⟩
      · intro Dl ys P2 l2 hly hF
        show T3 c _ _ _ _ _ _
        (with_reducible refine T3.ar0 ?_)
        refine T3.freezeLi (pre := [_]) fun P3 l3 hb => ?_
        simp only [List.cons_append, List.nil_append, List.append_nil]
        obtain ⟨ps, rfl, hps⟩ := strs_of (f := fun q => sh q [] 1) ys (spl .alt (.alt l r)) (by rw [hly]; exact hns.len) hF
        have hj : Txt.join (Str.ofString "|") (ps.map (·.1)) = S (sh (.alt l r) [] 0) := by
          rw [hps]
          show Txt.join (S (sepOf .alt)) _ = _
          rw [join_gl]
          exact congrArg S (gl_spl .alt (.alt l r))
        refine T3.sJoin hb (by
          rw [hps]
          exact join_ok (g := [124]) (by simp) (by omega) (fun q hq => by have := (subs q hq).2; omega)) fun _ => ?_
        rw [hj]
        (with_reducible refine T3.aName ?_); refine T3.st rfl ?_ (by kernel_rfl); (with_reducible refine Nx.nx ?_; refine T3.ss1 ?_; refine T3.sIf ?_; refine T3.isCmp ?_ rfl); refine T3.nL (by kernel_rfl) rfl ?_; refine T3.nG (by assumption) (by kernel_rfl) rfl ?_; (with_reducible refine T3.iGt ?_; refine T3.truB ?_)
        by_cases hp : 1 ≤ p
        · refine yes (by simp; omega) ?_
          (with_reducible refine T3.ss1 ?_; refine T3.sRet ?_; refine T3.binop ?_; refine T3.binop ?_); refine T3.cstr ?_; intro _; refine T3.nL (by kernel_rfl) rfl ?_
          have hsl := sh_len (.alt l r) [] 0
          simp only [List.length_nil] at hsl
          refine T3.sAdd (by rw [sizeLine_eq, S_len]; show 1 + _ ≤ _; omega) fun _ => ?_
          refine T3.cstr ?_; intro _
          refine T3.sAdd (by rw [sizeLine_eq]; show (S [40] ++ S _).length + 1 ≤ _; rw [S_add, S_len]; simp; omega) fun _ => ?_
          (with_reducible refine Nx.ret ?_; refine Nx.ret ?_; refine Nx.ret ?_)
          rw [in_brk, show 40 :: (sh (.alt l r) [] 0 ++ [41]) = sh (.alt l r) [] p by rw [sh_alt_p l r p, brk, if_pos hp]]
          exact Bk.mk ⟨⟨_, rfl⟩, rfl⟩
        · refine no (by simp; omega) ?_
          (with_reducible refine T3.ss0 ?_; refine Nx.nx ?_; refine T3.ss1 ?_; refine T3.sRet ?_); refine T3.nL (by kernel_rfl) rfl ?_; (with_reducible refine Nx.ret ?_; refine Nx.ret ?_)
          rw [show sh (.alt l r) [] 0 = sh (.alt l r) [] p by rw [sh_alt_p l r p, brk, if_neg hp]]
          exact Bk.mk ⟨⟨_, rfl⟩, rfl⟩
    | loop k0 b0 => exact absurd ⟨k0, b0, rfl⟩ hlp
end
section
variable {c : Cx} {A : Around} {P : Vw} {σ : St} {x a po b : Addr} {t : Tr} {bg : Bool}
theorem show_regex_ (kf : KF c) (kg : KG c) (hab : Abc t) (hr : Room A (t.ht + 14)) (hz : t.sz ≤ 1000) (h : Node P (.ref x) t) :
    T3 c A (PySem.call (.ref 967) [.ref x]) P [] (fun v P' σ' => (∃ k, v = .str (S (sh t [] 0)) k) ∧ σ' = []) NoE := by
  let Q1 : KO Value := fun v P' σ' => (∃ k, v = .str (S (sh t [] 0)) k) ∧ σ' = []
  show T3 _ _ _ _ _ Q1 _
  refine T3.d0 kf.f_show_regex [("node", .ref x)] hr.dep (fun _ _ _ _ _ _ => by kernel_rfl) (by kernel_rfl) fun L cdv => ?_
  refine T3.ss1 ?_
  (with_reducible refine T3.sRet ?_; refine T3.calln ?_ rfl); refine T3.nG (by assumption) (by kernel_rfl) rfl ?_; refine T3.cw0 (by assumption) rfl ?_; (with_reducible refine T3.ar1 ?_); refine T3.nL (by kernel_rfl) rfl ?_; (with_reducible refine T3.ar1 ?_); refine T3.nG (by assumption) (by kernel_rfl) rfl ?_; (with_reducible refine T3.ar0 ?_)
  refine T3.fr0 (show_at_ kf kg t.sz t (Nat.le_refl _) (p := 0) (tp := 888) hab (hr.deeper.le (Nat.lt_succ_self _)) hz h) ?_ (fun _ _ _ q => q.2)
  rintro _ P1 l1 ⟨⟨k, rfl⟩, _⟩
  (with_reducible refine Nx.ret ?_)
  exact Bk.mk ⟨⟨_, rfl⟩, rfl⟩
theorem show_pattern_ (kf : KF c) (kg : KG c) (hab : Abc t) (hr : Room A (t.ht + 14)) (hz : t.sz ≤ 1000) (hp : InP P po 762 [(Str.ofString "body", .ref b), (Str.ofString "begins", .bool true), (Str.ofString "trail", .none)]) (h : Node P (.ref b) t) :
    T3 c A (PySem.call (.ref 974) [.ref po]) P [] (fun v P' σ' => (∃ k, v = .str (S (94 :: sh t [] 0)) k) ∧ σ' = []) NoE := by
  let Q1 : KO Value := fun v P' σ' => (∃ k, v = .str (S (94 :: sh t [] 0)) k) ∧ σ' = []
  show T3 _ _ _ _ _ Q1 _
  refine T3.d0 kf.f_show_pattern [("pattern", .ref po)] hr.dep (fun _ _ _ _ _ _ => by kernel_rfl) (by kernel_rfl) fun L cdv => ?_
  refine T3.ss1 ?_
  refine T3.sAsg ?_ rfl rfl rfl; (with_reducible refine T3.calln ?_ rfl); refine T3.nG (by assumption) (by kernel_rfl) rfl ?_; refine T3.cw0 (by assumption) rfl ?_; (with_reducible refine T3.ar1 ?_; refine T3.attr ?_ rfl); refine T3.nL (by kernel_rfl) rfl ?_; refine T3.gI (by assumption) (by with_reducible assumption) (by first | assumption | kernel_rfl) (by kernel_rfl) rfl (by first | rfl | assumption) ?_; (with_reducible refine T3.ar1 ?_); refine T3.nG (by assumption) (by kernel_rfl) rfl ?_; (with_reducible refine T3.ar0 ?_)
  refine T3.fr0 (show_at_ kf kg t.sz t (Nat.le_refl _) (p := 0) (tp := 888) hab (hr.deeper.le (Nat.lt_succ_self _)) hz h) ?_ (fun _ _ _ q => q.2)
  rintro _ P1 l1 ⟨⟨k, rfl⟩, _⟩
  (with_reducible refine T3.aName ?_); refine T3.st rfl ?_ (by kernel_rfl); (with_reducible refine Nx.nx ?_; refine T3.ss1 ?_; refine T3.sIf ?_); refine T3.isT rfl ?_; (with_reducible refine T3.attr ?_ rfl); refine T3.nL (by kernel_rfl) rfl ?_; refine T3.gI (by assumption) (by (with_reducible (apply InP.le); (focus assumption); assumption)) (by first | assumption | kernel_rfl) (by kernel_rfl) rfl (by first | rfl | assumption) ?_; (with_reducible refine T3.truB ?_; refine yes rfl ?_; refine T3.ss1 ?_); refine T3.sAsg ?_ rfl rfl rfl; (with_reducible refine T3.binop ?_); refine T3.cstr ?_; intro _; refine T3.nL (by kernel_rfl) rfl ?_
  have hsl := sh_len t [] 0
  simp only [List.length_nil] at hsl
  refine T3.sAdd (by rw [sizeLine_eq, S_len]; show 1 + _ ≤ _; omega) fun _ => ?_
  (with_reducible refine T3.aName ?_); refine T3.st rfl ?_ (by kernel_rfl); (with_reducible refine Nx.nx ?_; refine T3.ss0 ?_; refine Nx.nx ?_; refine T3.ss1 ?_; refine T3.sIf ?_; refine T3.isCmp ?_ rfl; refine T3.attr ?_ rfl); refine T3.nL (by kernel_rfl) rfl ?_; refine T3.gI (by assumption) (by (with_reducible (apply InP.le); (focus assumption); assumption)) (by first | assumption | kernel_rfl) (by kernel_rfl) rfl (by first | rfl | assumption) ?_; (with_reducible refine T3.cnone ?_; refine T3.isNN ?_; refine T3.truB ?_; refine yes rfl ?_; refine T3.ss1 ?_; refine T3.sRet ?_); refine T3.nL (by kernel_rfl) rfl ?_; (with_reducible refine Nx.ret ?_; refine Nx.ret ?_)
  exact Bk.mk ⟨⟨_, congrArg (fun u => Value.str u _) (S_add [94] (sh t [] 0))⟩, rfl⟩
end
section
variable {c : Cx} {A : Around} {P : Vw} {σ : St} {E : Value → Vw → St → Prop} {Q : Value → Vw → St → Prop} {env : Env} {x a l sl d : Addr} {xs ys : List Value}
theorem T3.lSliceP {vl vu vs : Value} {lo hi st : Option Int} {p : Addr × (Obj → Prop)} (hl : LiP P l xs) (hs : SlP P sl vl vu vs) (pl : IsPart vl lo) (pu : IsPart vu hi) (ps : IsPart vs st) (h0 : st ≠ some 0) (hz : xs.length ≤ sizeLine)
    (he : slicePick xs.toArray lo hi st = ys.toArray) (h : ∀ a P', Le P P' → LiP P' a ys → Q (.ref a) P' (p :: σ)) : T3 c A (getItem (.ref l) (.ref sl)) P (p :: σ) Q E := by
  refine T3.post (Q₁ := fun v P' σ' => ∃ a, v = .ref a ∧ Le P P' ∧ σ' = p :: (a, IsLi ys) :: σ) (T3.lSlice hl hs pl pu ps h0 hz he fun a _ => ⟨a, rfl, Le.refl _, rfl⟩) ?_
  rintro v P' _ q hqa; refine e1x3 hqa ?_; clear hqa; rintro a hra q2 hrb; subst hra; subst hrb
  exact Gs.freezeLi (pre := [_]) fun P2 q3 hl2 => Gs.now (h a P2 (q2.trans q3) hl2)
theorem T3.prs1 {k v : Expr} {ks : List (Option Expr)} {vs : List Expr} {p2 : Pos} {Q : List (Value × Value) → Vw → St → Prop}
    (h : T3 c A (eval k env) P σ (fun kv P1 σ1 => T3 c A (eval v env) P1 σ1 (fun vv P2 σ2 => T3 c A (evalPairs (prs ks vs env p2)) P2 σ2 (fun us P3 σ3 => Q ((kv, vv) :: us) P3 σ3) E) E) E) : T3 c A (evalPairs (prs (some k :: ks) (v :: vs) env p2)) P σ Q E :=
  T3.ep1 (h.conseq fun kv _ _ _ h => T3.bind (h.conseq fun vv _ _ _ h => T3.bind (T3.standAt (T3.pure h))))
theorem T3.prs0 {p2 : Pos} {Q : List (Value × Value) → Vw → St → Prop} (h : Q [] P σ) : T3 c A (evalPairs (prs [] [] env p2)) P σ Q E := T3.ep0 h
/-- the vial -/
noncomputable def Vial (c : Cx) (d : Addr) (σ : St) : Prop := ∃ l xs ns h u kh ku, σ = [(d, IsD c [(Str.ofString "cells", .ref l), (Str.ofString "held", .int h kh), (Str.ofString "tail", .int u ku)]), (l, IsLi xs)] ∧ IntsAre xs ns ∧ (∀ n ∈ ns, (0 : Int) ≤ n) ∧ xs.length ≤ 1000 ∧ -1 ≤ h ∧ 0 ≤ u
theorem ints_nn : ∀ ys : List Value, (∀ (i : Nat) y, ys[i]? = some y → ∃ k t, y = .int k t ∧ (0 : Int) ≤ k) → ∃ ns, IntsAre ys ns ∧ ∀ n ∈ ns, (0 : Int) ≤ n
  | [], _ => ⟨[], .nil, fun _ h => nomatch h⟩
  | y :: ys, h => by
    refine e2x2 (h 0 y rfl) ?_; rintro k t hra hk; subst hra
    refine e1x2 (ints_nn ys fun i y e => h (i + 1) y (by simpa using e)) ?_; rintro ns h1 h2
    exact ⟨k :: ns, .cons k t h1, fun n hn => by
      rcases List.mem_cons.mp hn with rfl | hn
      · exact hk
      · exact h2 n hn⟩
theorem sum_nn : ∀ ns : List Int, (∀ n ∈ ns, (0 : Int) ≤ n) → 0 ≤ ns.sum
  | [], _ => by simp
  | n :: ns, h => by
    rw [List.sum_cons]
    have := h n (.head _)
    have := sum_nn ns fun m hm => h m (.tail _ hm)
    omega
theorem ints_mem {xs : List Value} {ns : List Int} (hi : IntsAre xs ns) : ∀ v ∈ xs, ∃ k t, v = Value.int k t := by
  induction hi with
  | nil => exact fun _ h => nomatch h
  | cons i k r ih =>
    intro v hv
    rcases List.mem_cons.mp hv with rfl | h
    · exact i2x1 _ _ rfl
    · exact ih v h
theorem vial_ (kf : KF c) (hr : Room A 8) {ns : List Int} (hl : LiP P l xs) (hi : IntsAre xs ns) (hz : xs.length ≤ 1000) : T3 c A (PySem.call (.ref 979) [.ref l]) P [] (fun v P' σ' => ∃ d, v = .ref d ∧ d ≠ sysModules ∧ Vial c d σ') NoE := by
  let Q1 : KO Value := fun v P' σ' => ∃ d, v = .ref d ∧ d ≠ sysModules ∧ Vial c d σ'
  show T3 _ _ _ _ _ Q1 _
  refine T3.d0 kf.f__law_vial [("script", .ref l)] hr.dep (fun _ _ _ _ _ _ => by kernel_rfl) (by kernel_rfl) fun L cdv => ?_
  have hd : Room (A.deeper (mkE (fdS (topS 67)) (Str.ofString "_law_vial") L 979 cdv)) 7 := hr.deeper
  refine T3.ss1 (T3.sLC (cl := []) rfl hd.no (fun _ => rfl) rfl (by kernel_rfl) rfl (by kernel_rfl) rfl ?_)
  refine T3.subSl ?_ (fun _ _ => ⟨_, rfl⟩); refine T3.nL (by kernel_rfl) rfl ?_; (with_reducible refine T3.part0 ?_; refine T3.part1 ?_); refine T3.cint ?_; intro _; (with_reducible refine T3.part0 ?_)
  intro sl P1 l1 hsl
  refine T3.gLi (by (with_reducible (apply LiP.le); (focus assumption); assumption)) ?_
  refine T3.lSliceP (ys := xs.take 40) (lo := none) (hi := some 40) (st := none) (hl.le l1) hsl .none (.int _ _) .none (by simp) (by rw [sizeLine_eq]; omega) (pick_upto _ 40) ?_
  intro b P2 l2 hb
  have item : ∀ (i : Nat) (v : Value), (xs.take 40)[i]? = some v → ∃ k t, v = Value.int k t := fun i v hv => ints_mem hi v (List.mem_of_mem_take (List.mem_of_getElem? hv))
  refine ⟨(xs.take 40).length, _, fun i y P' => ∃ k t, y = .int k t ∧ (0 : Int) ≤ k, ⟨ItK.li hb, by rw [sizeLine_eq]; simp; omega, ?_, ?_, ?_⟩⟩
  · exact fun _ _ _ _ _ h => h
  · intro C i v P3 l3 hil hvi
    refine e2x1 (item i v hvi) ?_; rintro k t hra; subst hra
    (with_reducible refine T3.binop ?_; refine T3.calln ?_ rfl); refine T3.nB (by assumption) (by kernel_rfl) (by boot_by_name) ?_; (with_reducible refine T3.cwB ?_; refine T3.ar1 ?_; refine T3.calln ?_ rfl); refine T3.nB (by assumption) (by kernel_rfl) (by boot_by_name) ?_; (with_reducible refine T3.cwT ?_; refine T3.ar1 ?_); refine T3.nL (by kernel_rfl) rfl ?_; (with_reducible refine T3.ar0 ?_)
    refine T3.iInt ?_
    (with_reducible refine T3.ar0 ?_)
    refine T3.iAbs fun _ => ?_
    (with_reducible refine T3.binop ?_); refine T3.cint ?_; intro _; refine T3.cint ?_; intro _
    refine T3.iPow (e := 60) (by decide) fun _ => ?_
    refine T3.iMod (by decide) fun _ => ?_
    exact ⟨rfl, i2x2 _ _ rfl (Int.emod_nonneg _ (by decide))⟩
  · intro D ys P3 l3 hly hF
    refine e1x2 (ints_nn ys hF) ?_; rintro ks hks hnn
    show T3 c _ (assign _ _ _) _ ((L, NsP _) :: (D, IsLi ys) :: []) (fun _ => Nx _ _ _ _ _ _ _) _
    (with_reducible refine T3.aName ?_); refine T3.st rfl ?_ (by kernel_rfl); (with_reducible refine Nx.nx ?_; refine T3.ss1 ?_; refine T3.sRet ?_)
    refine T3.dictN ?hs ?h0 ?hl ?_
    case hs => rfl
    case h0 => intro h; cases h
    case hl => exact lit rfl
    refine T3.prs1 ?_
    refine T3.cstr ?_; intro _; refine T3.nL (by kernel_rfl) rfl ?_
    refine T3.prs1 ?_
    refine T3.cstr ?_; intro _; (with_reducible refine T3.unop ?_); refine T3.cint ?_; intro _; refine T3.iNeg ?_; intro _
    refine T3.prs1 ?_
    refine T3.cstr ?_; intro _; (with_reducible refine T3.binop ?_); refine T3.cint ?_; intro _; (with_reducible refine T3.binop ?_; refine T3.calln ?_ rfl); refine T3.nB (by assumption) (by kernel_rfl) (by boot_by_name) ?_; (with_reducible refine T3.cwB ?_; refine T3.ar1 ?_); refine T3.nL (by kernel_rfl) rfl ?_; (with_reducible refine T3.ar0 ?_)
    refine T3.lSum hd.no (by exact (List.mem_cons_of_mem _ List.mem_cons_self)) hks fun _ => ?_
    refine T3.cint ?_; intro _
    refine T3.iMod (by decide) fun _ => ?_
    refine T3.iAdd ?_; intro _
    refine T3.prs0 ?_
    refine i3x3 [(Str.ofString "cells", .ref D), (Str.ofString "held", .int (-1) _), (Str.ofString "tail", .int (17 + ks.sum % 2147483477) _)] _ _ rfl ⟨strKind_is _ _ _ _, rfl, strKind_is _ _ _ _, rfl, strKind_is _ _ _ _, rfl, trivial⟩ (fun d hd' => ?_)
    (with_reducible refine Nx.ret ?_)
    refine Bk.mk ⟨d, rfl, hd', D, ys, ks, -1, 17 + ks.sum % 2147483477, _, _, rfl, hks, hnn, by rw [hly]; simp; omega, by decide, ?_⟩
    have := Int.emod_nonneg ks.sum (show (2147483477 : Int) ≠ 0 by decide)
    omega
end
section
variable {c : Cx} {A : Around} {P : Vw} {σ : St} {d l : Addr} {xs : List Value} {m : Nat} {tm : Tok}
noncomputable abbrev viD (l : Addr) (h : Int) (kh : Tok) (u : Int) (ku : Tok) : Fs := [(Str.ofString "cells", .ref l), (Str.ofString "held", .int h kh), (Str.ofString "tail", .int u ku)]
theorem viD_cells (l : Addr) (h : Int) (kh : Tok) (u : Int) (ku : Tok) : valueAt (viD l h kh u ku) (Str.ofString "cells") = some (.ref l) := rfl
theorem viD_held (l : Addr) (h : Int) (kh : Tok) (u : Int) (ku : Tok) : valueAt (viD l h kh u ku) (Str.ofString "held") = some (.int h kh) := rfl
theorem viD_tail (l : Addr) (h : Int) (kh : Tok) (u : Int) (ku : Tok) : valueAt (viD l h kh u ku) (Str.ofString "tail") = some (.int u ku) := rfl
theorem viD_setH (l : Addr) (h : Int) (kh : Tok) (u : Int) (ku : Tok) (h' : Int) (kh' : Tok) : stored (viD l h kh u ku) (Str.ofString "held") (.int h' kh') = viD l h' kh' u ku := rfl
theorem viD_setT (l : Addr) (h : Int) (kh : Tok) (u : Int) (ku : Tok) (u' : Int) (ku' : Tok) : stored (viD l h kh u ku) (Str.ofString "tail") (.int u' ku') = viD l h kh u' ku' := rfl
theorem drop_ (kf : KF c) (hr : Room A 10) (hv : Vial c d σ) (hm : 0 < m) (hp : ∀ i, Builtin.divisionGoesByPylong i (m : Int) = false) :
    T3 c A (PySem.call (.ref 986) [.ref d, .int m tm]) P σ (fun v P' σ' => (∃ r k, v = .int (r : Nat) k ∧ r < m) ∧ Vial c d σ') NoE := by
  let Q1 : KO Value := fun v P' σ' => (∃ r k, v = .int (r : Nat) k ∧ r < m) ∧ Vial c d σ'
  show T3 _ _ _ _ _ Q1 _
  refine e7x6 (hv) ?_; rintro l xs ns h u kh ku hra hi hnn hz hh hu; subst hra
  refine T3.d0 kf.f__law_drop [("most", .int m tm), ("vial", .ref d)] hr.dep (fun _ _ _ _ _ _ => by kernel_rfl) (by kernel_rfl) fun L cdv => ?_
  have hd : Room (A.deeper (mkE (fdS (topS 68)) (Str.ofString "_law_drop") L 986 cdv)) 9 := hr.deeper
  refine T3.ss1 (T3.conseq (Q := fun f P1 σ1 => f = Flow.next ∧ ∃ xs ns h kh, σ1 = [(L, NsP [("most", .int m tm), ("vial", .ref d)]), (d, IsD c (viD l h kh u ku)), (l, IsLi xs)] ∧ IntsAre xs ns ∧ (∀ n ∈ ns, (0 : Int) ≤ n) ∧ xs.length ≤ 1000 ∧ -1 ≤ h) ?_ ?_)
  · (with_reducible refine T3.sIf ?_; refine T3.isBool ?_; refine T3.and1 ?_; refine T3.isCmp ?_ rfl); refine T3.subG ?_ (fun _ _ => rfl); refine T3.nL (by kernel_rfl) rfl ?_; refine T3.cstr ?_; intro _; refine T3.gDi (List.mem_cons_of_mem _ List.mem_cons_self) ?_
    refine T3.dItem (fs := viD l h kh u ku) (by exact (List.mem_cons_of_mem _ List.mem_cons_self)) (viD_held ..) ?_
    refine T3.cint ?_; intro _; (with_reducible refine T3.iLt ?_; refine T3.truB ?_)
    by_cases h0 : h < 0
    · refine yes (by simpa using h0) ?_
      (with_reducible refine T3.and1 ?_; refine T3.isCmp ?_ rfl); refine T3.subG ?_ (fun _ _ => rfl); refine T3.nL (by kernel_rfl) rfl ?_; refine T3.cstr ?_; intro _; refine T3.gDi (List.mem_cons_of_mem _ List.mem_cons_self) ?_
      refine T3.dItem (fs := viD l h kh u ku) (by exact (List.mem_cons_of_mem _ List.mem_cons_self)) (viD_cells ..) ?_
      (with_reducible refine T3.lst ?_ rfl; refine T3.ar0 ?_); refine T3.newLi (lit rfl) ?_; intro _ _
      refine T3.liNe (ns := ns) (xs := xs) (by exact (List.mem_cons_of_mem _ (List.mem_cons_of_mem _ (List.mem_cons_of_mem _ List.mem_cons_self)))) (by exact (List.mem_cons_of_mem _ List.mem_cons_self)) hi (by have := hd.2.1; omega) ?_
      refine T3.perm (List.Perm.swap ..) (T3.drop ?_)
      (with_reducible refine T3.truB ?_)
      cases hi with
      | nil =>
        refine no rfl ?_
        (with_reducible refine no rfl ?_; refine T3.ss0 ?_)
        exact ⟨rfl, i4x5 [] [] h kh rfl .nil (fun _ h => (nomatch h)) (by simp) hh⟩
      | @cons vs ns' i k r =>
        refine yes rfl ?_
        (with_reducible refine T3.and0 ?_; refine yes rfl ?_; refine T3.ss1 ?_); refine T3.sAsg ?_ rfl rfl rfl; refine T3.callm ?_ rfl rfl rfl (lit rfl); refine T3.subG ?_ (fun _ _ => rfl); refine T3.nL (by kernel_rfl) rfl ?_; refine T3.cstr ?_; intro _; refine T3.gDi (List.mem_cons_of_mem _ List.mem_cons_self) ?_
        refine T3.dItem (fs := viD l h kh u ku) (by exact (List.mem_cons_of_mem _ List.mem_cons_self)) (viD_cells ..) ?_
        refine T3.mLi F.slot_list_pop F.type_list_pop (List.mem_cons_of_mem _ (List.mem_cons_of_mem _ List.mem_cons_self)) ?_; (with_reducible refine T3.cwB1 ?_; refine T3.ar1 ?_); refine T3.cint ?_; intro _; (with_reducible refine T3.ar0 ?_)
        refine T3.lPop0 (pre := [_, _]) (by rw [sizeLine_eq]; simp at hz; omega) ?_
        simp only [List.cons_append, List.nil_append, List.append_nil]
        (with_reducible refine T3.aSub ?_); refine T3.nL (by kernel_rfl) rfl ?_; refine T3.cstr ?_; intro _
        refine T3.dSet (pre := [_]) (lit rfl) ?_
        rw [viD_setH]
        simp only [List.cons_append, List.nil_append, List.append_nil]
        (with_reducible refine Nx.nx ?_; refine T3.ss0 ?_)
        exact ⟨rfl, i4x5 _ _ _ _ rfl r (fun n hn => hnn n (.tail _ hn)) (by simp at hz; omega) (by have := hnn _ (.head _); omega)⟩
    · refine no (by simpa using h0) ?_
      (with_reducible refine no rfl ?_; refine T3.ss0 ?_)
      exact ⟨rfl, i4x5 xs ns h kh rfl hi hnn hz hh⟩
  · rintro f P1 _ l1 hqa; obtain ⟨rfl, hqb⟩ := hqa; refine e4x5 hqb ?_; clear hqb; rintro xs ns h kh hra hi hnn hz hh; subst hra
    refine Nx.nx ?_
    (with_reducible refine T3.ss1 ?_; refine T3.sIf ?_; refine T3.isCmp ?_ rfl); refine T3.subG ?_ (fun _ _ => rfl); refine T3.nL (by kernel_rfl) rfl ?_; refine T3.cstr ?_; intro _; refine T3.gDi (List.mem_cons_of_mem _ List.mem_cons_self) ?_
    refine T3.dItem (fs := viD l h kh u ku) (by exact (List.mem_cons_of_mem _ List.mem_cons_self)) (viD_held ..) ?_
    refine T3.cint ?_; intro _; (with_reducible refine T3.iLt ?_; refine T3.truB ?_)
    by_cases h0 : h < 0
    · refine yes (by simpa using h0) ?_
      (with_reducible refine T3.ss1 ?_); refine T3.sAsg ?_ rfl rfl rfl; (with_reducible refine T3.binop ?_; refine T3.binop ?_; refine T3.binop ?_); refine T3.subG ?_ (fun _ _ => rfl); refine T3.nL (by kernel_rfl) rfl ?_; refine T3.cstr ?_; intro _; refine T3.gDi (List.mem_cons_of_mem _ List.mem_cons_self) ?_
      refine T3.dItem (fs := viD l h kh u ku) (by exact (List.mem_cons_of_mem _ List.mem_cons_self)) (viD_tail ..) ?_
      refine T3.cint ?_; intro _
      refine T3.iMul (IntMulOk.of_right (by decide)) fun _ => ?_
      refine T3.cint ?_; intro _; refine T3.iAdd ?_; intro _; refine T3.cint ?_; intro _
      refine T3.iMod (by decide) fun _ => ?_
      (with_reducible refine T3.aSub ?_); refine T3.nL (by kernel_rfl) rfl ?_; refine T3.cstr ?_; intro _
      refine T3.dSet (pre := [_]) (lit rfl) ?_
      rw [viD_setT]
      simp only [List.cons_append, List.nil_append, List.append_nil]
      (with_reducible refine Nx.nx ?_; refine T3.ss1 ?_; refine T3.sRet ?_; refine T3.binop ?_; refine T3.binop ?_); refine T3.subG ?_ (fun _ _ => rfl); refine T3.nL (by kernel_rfl) rfl ?_; refine T3.cstr ?_; intro _; refine T3.gDi (List.mem_cons_of_mem _ List.mem_cons_self) ?_
      refine T3.dItem (fs := viD l h kh _ _) (by exact (List.mem_cons_of_mem _ List.mem_cons_self)) (viD_tail ..) ?_
      refine T3.cint ?_; intro _
      refine T3.iDiv (by decide) rfl fun _ => ?_
      refine T3.nL (by kernel_rfl) rfl ?_
      refine T3.iMod (by omega) fun _ => ?_
      (with_reducible refine Nx.ret ?_; refine Nx.ret ?_)
      have hq := Int.emod_nonneg (u * 40699 + 5) (show (2147483477 : Int) ≠ 0 by decide)
      have h1 := Int.emod_nonneg ((u * 40699 + 5) % 2147483477 / 128) (show (m : Int) ≠ 0 by omega)
      have h2 := Int.emod_lt_of_pos ((u * 40699 + 5) % 2147483477 / 128) (show (0 : Int) < m by omega)
      obtain ⟨r, hr'⟩ := Int.eq_ofNat_of_zero_le h1
      rw [hr']
      rw [hr'] at h2
      exact Bk.mk ⟨⟨r, _, rfl, by omega⟩, i7x6 l xs ns h _ kh _ rfl hi hnn hz hh hq⟩
    · refine no (by simpa using h0) ?_
      (with_reducible refine T3.ss0 ?_; refine Nx.nx ?_; refine T3.ss1 ?_); refine T3.sAsg ?_ rfl rfl rfl; (with_reducible refine T3.binop ?_); refine T3.subG ?_ (fun _ _ => rfl); refine T3.nL (by kernel_rfl) rfl ?_; refine T3.cstr ?_; intro _; refine T3.gDi (List.mem_cons_of_mem _ List.mem_cons_self) ?_
      refine T3.dItem (fs := viD l h kh u ku) (by exact (List.mem_cons_of_mem _ List.mem_cons_self)) (viD_held ..) ?_
      refine T3.nL (by kernel_rfl) rfl ?_
      refine T3.iMod (by omega) fun _ => ?_
      (with_reducible refine T3.aName ?_); refine T3.st rfl ?_ (by kernel_rfl); (with_reducible refine Nx.nx ?_; refine T3.ss1 ?_); refine T3.sAsg ?_ rfl rfl rfl; (with_reducible refine T3.ifexp ?_; refine T3.isCmp ?_ rfl); refine T3.subG ?_ (fun _ _ => rfl); refine T3.nL (by kernel_rfl) rfl ?_; refine T3.cstr ?_; intro _; refine T3.gDi (List.mem_cons_of_mem _ List.mem_cons_self) ?_
      refine T3.dItem (fs := viD l h kh u ku) (by exact (List.mem_cons_of_mem _ List.mem_cons_self)) (viD_held ..) ?_
      refine T3.nL (by kernel_rfl) rfl ?_; (with_reducible refine T3.iGe ?_; refine T3.truB ?_)
      have h1 := Int.emod_nonneg h (show (m : Int) ≠ 0 by omega)
      have h2 := Int.emod_lt_of_pos h (show (0 : Int) < m by omega)
      obtain ⟨r, hr'⟩ := Int.eq_ofNat_of_zero_le h1
      rw [hr']
      rw [hr'] at h2
      by_cases hg : (m : Int) ≤ h
      · refine yes (by simpa using hg) ?_
        (with_reducible refine T3.binop ?_); refine T3.subG ?_ (fun _ _ => rfl); refine T3.nL (by kernel_rfl) rfl ?_; refine T3.cstr ?_; intro _; refine T3.gDi (List.mem_cons_of_mem _ List.mem_cons_self) ?_
        refine T3.dItem (fs := viD l h kh u ku) (by exact (List.mem_cons_of_mem _ List.mem_cons_self)) (viD_held ..) ?_
        refine T3.nL (by kernel_rfl) rfl ?_
        refine T3.iDiv (by omega) (hp h) fun _ => ?_
        (with_reducible refine T3.aSub ?_); refine T3.nL (by kernel_rfl) rfl ?_; refine T3.cstr ?_; intro _
        refine T3.dSet (pre := [_]) (lit rfl) ?_
        rw [viD_setH]
        simp only [List.cons_append, List.nil_append, List.append_nil]
        (with_reducible refine Nx.nx ?_; refine T3.ss1 ?_; refine T3.sRet ?_); refine T3.nL (by kernel_rfl) rfl ?_; (with_reducible refine Nx.ret ?_)
        have h3 := Int.ediv_nonneg (show 0 ≤ h by omega) (show (0 : Int) ≤ m by omega)
        exact Bk.mk ⟨⟨r, _, rfl, by omega⟩, i7x6 l xs ns _ _ _ _ rfl hi hnn hz (by omega) hu⟩
      · refine no (by simpa using hg) ?_
        (with_reducible refine T3.unop ?_); refine T3.cint ?_; intro _; refine T3.iNeg ?_; intro _; (with_reducible refine T3.aSub ?_); refine T3.nL (by kernel_rfl) rfl ?_; refine T3.cstr ?_; intro _
        refine T3.dSet (pre := [_]) (lit rfl) ?_
        rw [viD_setH]
        simp only [List.cons_append, List.nil_append, List.append_nil]
        (with_reducible refine Nx.nx ?_; refine T3.ss1 ?_; refine T3.sRet ?_); refine T3.nL (by kernel_rfl) rfl ?_; (with_reducible refine Nx.ret ?_)
        exact Bk.mk ⟨⟨r, _, rfl, by omega⟩, i7x6 l xs ns _ _ _ _ rfl hi hnn hz (by decide) hu⟩
end
section
variable {c : Cx} {A : Around} {P : Vw} {σ : St} {E : Value → Vw → St → Prop} {env : Env} {a b l : Addr} {xs : List Value} {t : Tr} {ch : Nat} {tk : Tok} {w : Nat}
theorem T3.sSw2 {e1 e2 : Expr} {x y : Str} {px py p2 tp pos : Pos} {k k2 : Nat} {Q : Flow → Vw → St → Prop} (hA : A.handled = none)
    (h : T3 c A (eval e1 env) P σ (fun v1 P1 σ1 => T3 c A (eval e2 env) P1 σ1 (fun v2 P2 σ2 => ∀ P3, Le P2 P3 → T3 c A (storeName env y v2) P3 σ2 (fun _ P4 σ4 => T3 c A (storeName env x v1) P4 σ4 (fun _ => Q .next) E) E) E) E)
    (he : backTo p2 (starEach [e1, e2] env) = argTs [e1, e2] env)
    (hs : swapsWithSole [.Tuple [.Name x px, .Name y py] k tp] (.Tuple [e1, e2] k2 p2) pos.line env = Pure.pure false) (hw : swappedStores [.Tuple [.Name x px, .Name y py] k tp] (.Tuple [e1, e2] k2 p2) env = Pure.pure (some [x, y])) :
    T3 c A (exec (.Assign [.Tuple [.Name x px, .Name y py] k tp] (.Tuple [e1, e2] k2 p2) pos) env) P σ Q E := by
  refine T3.sSwap (names := [x, y]) hA (T3.tup (T3.ar1 (h.conseq fun v1 P1 σ1 _ h => T3.ar1 (h.conseq fun v2 P2 σ2 _ h => T3.ar0 (T3.newTu (by rw [sizeLine_eq]; exact lit rfl) fun a P3 l3 ht => ⟨a, _, rfl, ht, rfl, ?_⟩)))) he) hs hw
  exact T3.ao1 (T3.bnd ((h P3 l3).conseq fun _ P4 σ4 _ h => T3.ao1 (T3.bnd (h.conseq fun _ _ _ _ h => T3.ao0 h))))
theorem law_sign_ (kf : KF c) (hr : Room A 13) (hc : ch ≤ 127) : T3 c A (PySem.call (.ref 993) [.str (S [ch]) tk]) P [] (fun v P' σ' => TreeV P' v (.chr ch) ∧ σ' = []) NoE := by
  let Q1 : KO Value := fun v P' σ' => TreeV P' v (.chr ch) ∧ σ' = []
  show T3 _ _ _ _ _ Q1 _
  refine T3.d0 kf.f__law_sign [("letter", .str (S [ch]) tk)] hr.dep (fun _ _ _ _ _ _ => by kernel_rfl) (by kernel_rfl) fun L cdv => ?_
  refine T3.ss1 ?_
  (with_reducible refine T3.sRet ?_; refine T3.tup ?_ rfl; refine T3.ar1 ?_); refine T3.cstr ?_; intro _; (with_reducible refine T3.ar1 ?_); refine T3.callm ?_ rfl rfl rfl (lit rfl); refine T3.callm ?_ rfl rfl rfl (lit rfl); refine T3.nG (by assumption) (by kernel_rfl) rfl ?_; refine T3.mSt (by assumption) rfl ?_; refine T3.cw0 (by assumption) rfl ?_; (with_reducible refine T3.ar1 ?_); refine T3.nL (by kernel_rfl) rfl ?_; (with_reducible refine T3.ar0 ?_)
  refine T3.fr0 (of_ kf (hr.deeper.le (lit rfl)) hc) ?_ (fun _ _ _ q => q.2)
  rintro _ P1 l1 hqa; obtain ⟨hqb, _⟩ := hqa; refine e1x2 hqb ?_; clear hqb; rintro s hra hs; subst hra
  refine e1x2 (id hs) ?_; rintro sp0 hs0 _
  refine T3.mFI (by assumption) (by with_reducible assumption) (by first | assumption | kernel_rfl) rfl (by kernel_rfl) rfl ?_; refine T3.cw10 (by assumption) rfl ?_
  refine T3.fr0 (key_ kf (hr.deeper.le (lit rfl)) hs) ?_ (fun _ _ _ q => q.2)
  rintro _ P2 l2 hqa; obtain ⟨hqb, _⟩ := hqa; refine e1x2 hqb ?_; clear hqb; rintro sp hra hsp; subst hra
  (with_reducible refine T3.ar0 ?_); refine T3.newTu (lit rfl) ?_; intro _ _ _ _; (with_reducible refine Nx.ret ?_)
  exact Bk.mk ⟨⟨_, sp, _, rfl, by assumption, by (with_reducible (apply SpP.le); (focus assumption); assumption)⟩, rfl⟩
noncomputable def baseT : Nat → List Nat × Tr
  | 0 => ([97], .chr 97)
  | 1 => ([34, 97, 98, 34, 42], .loop .star (.cat (.chr 97) (.chr 98)))
  | 2 => ([40, 97, 124, 41], .alt (.chr 97) .emp)
  | _ => ([34, 97, 98, 34], .cat (.chr 97) (.chr 98))
noncomputable def BaseV (P : Vw) (v : Value) (T : List Nat) (t : Tr) : Prop := ∃ a k x, v = .ref a ∧ TuP P a [.str (S T) k, .ref x] ∧ TreeV P (.ref x) t
theorem law_base_ (kf : KF c) (hr : Room A 15) (hw : w < 4) : T3 c A (PySem.call (.ref 1000) [.int w tk]) P [] (fun v P' σ' => BaseV P' v (baseT w).1 (baseT w).2 ∧ σ' = []) NoE := by
  let Q1 : KO Value := fun v P' σ' => BaseV P' v (baseT w).1 (baseT w).2 ∧ σ' = []
  show T3 _ _ _ _ _ Q1 _
  refine T3.d0 kf.f__law_base [("way", .int w tk)] hr.dep (fun _ _ _ _ _ _ => by kernel_rfl) (by kernel_rfl) fun L cdv => ?_
  have hd : Room (A.deeper (mkE (fdS (topS 70)) (Str.ofString "_law_base") L 1000 cdv)) 14 := hr.deeper
  refine T3.ss1 ?_
  have sa : ∀ {P : Vw} {k : Tok}, T3 c (A.deeper (mkE (fdS (topS 70)) (Str.ofString "_law_base") L 1000 cdv)) (PySem.call (.ref 993) [.str (Str.ofString "a") k]) P [] (fun v P' σ' => TreeV P' v (.chr 97) ∧ σ' = []) NoE := law_sign_ (ch := 97) kf (hd.le (lit rfl)) (by decide)
  have sb : ∀ {P : Vw} {k : Tok}, T3 c (A.deeper (mkE (fdS (topS 70)) (Str.ofString "_law_base") L 1000 cdv)) (PySem.call (.ref 993) [.str (Str.ofString "b") k]) P [] (fun v P' σ' => TreeV P' v (.chr 98) ∧ σ' = []) NoE := law_sign_ (ch := 98) kf (hd.le (lit rfl)) (by decide)
  rcases w with _ | _ | _ | _ | w
  · (with_reducible refine T3.sIf ?_; refine T3.isCmp ?_ rfl); refine T3.nL (by kernel_rfl) rfl ?_; refine T3.cint ?_; intro _; (with_reducible refine T3.iEq ?_; refine T3.truB ?_; refine yes rfl ?_; refine T3.ss1 ?_; refine T3.sRet ?_; refine T3.tup ?_ rfl; refine T3.ar1 ?_); refine T3.cstr ?_; intro _; (with_reducible refine T3.ar1 ?_; refine T3.calln ?_ rfl); refine T3.nG (by assumption) (by kernel_rfl) rfl ?_; refine T3.cw0 (by assumption) rfl ?_; (with_reducible refine T3.ar1 ?_); refine T3.cstr ?_; intro _; (with_reducible refine T3.ar0 ?_)
    refine T3.fr0 sa ?_ (fun _ _ _ q => q.2)
    rintro _ P1 l1 ⟨hv, _⟩
    obtain ⟨x, rfl⟩ := hv.ref
    (with_reducible refine T3.ar0 ?_); refine T3.newTu (lit rfl) ?_; intro _ _ _ _; (with_reducible refine Nx.ret ?_; refine Nx.ret ?_)
    exact Bk.mk ⟨(show BaseV _ _ [97] (.chr 97) from ⟨_, _, x, rfl, by assumption, by (with_reducible (apply TreeV.le); (focus assumption); assumption)⟩), rfl⟩
  · (with_reducible refine T3.sIf ?_; refine T3.isCmp ?_ rfl); refine T3.nL (by kernel_rfl) rfl ?_; refine T3.cint ?_; intro _; (with_reducible refine T3.iEq ?_; refine T3.truB ?_; refine no rfl ?_; refine T3.ss0 ?_; refine Nx.nx ?_; refine T3.ss1 ?_; refine T3.sIf ?_; refine T3.isCmp ?_ rfl); refine T3.nL (by kernel_rfl) rfl ?_; refine T3.cint ?_; intro _; (with_reducible refine T3.iEq ?_; refine T3.truB ?_; refine yes rfl ?_; refine T3.ss1 ?_; refine T3.sRet ?_; refine T3.tup ?_ rfl; refine T3.ar1 ?_); refine T3.cstr ?_; intro _; (with_reducible refine T3.ar1 ?_; refine T3.tup ?_ rfl; refine T3.ar1 ?_); refine T3.cstr ?_; intro _; (with_reducible refine T3.ar1 ?_; refine T3.tup ?_ rfl; refine T3.ar1 ?_); refine T3.cstr ?_; intro _; (with_reducible refine T3.ar1 ?_; refine T3.calln ?_ rfl); refine T3.nG (by assumption) (by kernel_rfl) rfl ?_; refine T3.cw0 (by assumption) rfl ?_; (with_reducible refine T3.ar1 ?_); refine T3.cstr ?_; intro _; (with_reducible refine T3.ar0 ?_)
    refine T3.fr0 sa ?_ (fun _ _ _ q => q.2)
    rintro _ P1 l1 ⟨hv, _⟩
    obtain ⟨x, rfl⟩ := hv.ref
    (with_reducible refine T3.ar1 ?_; refine T3.calln ?_ rfl); refine T3.nG (by assumption) (by kernel_rfl) rfl ?_; refine T3.cw0 (by assumption) rfl ?_; (with_reducible refine T3.ar1 ?_); refine T3.cstr ?_; intro _; (with_reducible refine T3.ar0 ?_)
    refine T3.fr0 sb ?_ (fun _ _ _ q => q.2)
    rintro _ P2 l2 ⟨hv2, _⟩
    obtain ⟨x2, rfl⟩ := hv2.ref
    (with_reducible refine T3.ar0 ?_); refine T3.newTu (lit rfl) ?_; intro _ _ _ _; (with_reducible refine T3.ar0 ?_); refine T3.newTu (lit rfl) ?_; intro _ _ _ _; (with_reducible refine T3.ar0 ?_); refine T3.newTu (lit rfl) ?_; intro _ _ _ _; (with_reducible refine Nx.ret ?_; refine Nx.ret ?_)
    exact Bk.mk ⟨(show BaseV _ _ [34, 97, 98, 34, 42] (.loop .star (.cat (.chr 97) (.chr 98))) from ⟨_, _, _, rfl, by assumption, ⟨_, _, _, rfl, (show TuP _ _ [.str (Str.ofString "star") _, .ref _] by (with_reducible (apply TuP.le); (focus assumption); assumption)), ⟨_, _, x, x2, rfl, by (with_reducible (apply TuP.le); (focus assumption); (apply TuP.le); (focus assumption); assumption), by (with_reducible (apply TreeV.le); (focus assumption); (apply TreeV.le); (focus assumption); (apply TreeV.le); (focus assumption); (apply TreeV.le); (focus assumption); assumption), by (with_reducible (apply TreeV.le); (focus assumption); (apply TreeV.le); (focus assumption); (apply TreeV.le); (focus assumption); assumption)⟩⟩⟩), rfl⟩
  · (with_reducible refine T3.sIf ?_; refine T3.isCmp ?_ rfl); refine T3.nL (by kernel_rfl) rfl ?_; refine T3.cint ?_; intro _; (with_reducible refine T3.iEq ?_; refine T3.truB ?_; refine no rfl ?_; refine T3.ss0 ?_; refine Nx.nx ?_; refine T3.ss1 ?_; refine T3.sIf ?_; refine T3.isCmp ?_ rfl); refine T3.nL (by kernel_rfl) rfl ?_; refine T3.cint ?_; intro _; (with_reducible refine T3.iEq ?_; refine T3.truB ?_; refine no rfl ?_; refine T3.ss0 ?_; refine Nx.nx ?_; refine T3.ss1 ?_; refine T3.sIf ?_; refine T3.isCmp ?_ rfl); refine T3.nL (by kernel_rfl) rfl ?_; refine T3.cint ?_; intro _; (with_reducible refine T3.iEq ?_; refine T3.truB ?_; refine yes rfl ?_; refine T3.ss1 ?_; refine T3.sRet ?_; refine T3.tup ?_ rfl; refine T3.ar1 ?_); refine T3.cstr ?_; intro _; (with_reducible refine T3.ar1 ?_; refine T3.tup ?_ rfl; refine T3.ar1 ?_); refine T3.cstr ?_; intro _; (with_reducible refine T3.ar1 ?_; refine T3.calln ?_ rfl); refine T3.nG (by assumption) (by kernel_rfl) rfl ?_; refine T3.cw0 (by assumption) rfl ?_; (with_reducible refine T3.ar1 ?_); refine T3.cstr ?_; intro _; (with_reducible refine T3.ar0 ?_)
    refine T3.fr0 sa ?_ (fun _ _ _ q => q.2)
    rintro _ P1 l1 ⟨hv, _⟩
    obtain ⟨x, rfl⟩ := hv.ref
    (with_reducible refine T3.ar1 ?_; refine T3.tup ?_ rfl; refine T3.ar1 ?_); refine T3.cstr ?_; intro _; (with_reducible refine T3.ar0 ?_); refine T3.newTu (lit rfl) ?_; intro _ _ _ _; (with_reducible refine T3.ar0 ?_); refine T3.newTu (lit rfl) ?_; intro _ _ _ _; (with_reducible refine T3.ar0 ?_); refine T3.newTu (lit rfl) ?_; intro _ _ _ _; (with_reducible refine Nx.ret ?_; refine Nx.ret ?_)
    rename_i et P2 l2 het at' P3 l3 hat rt P4 l4 hrt
    exact Bk.mk ⟨(show BaseV _ _ [40, 97, 124, 41] (.alt (.chr 97) .emp) from ⟨_, _, _, rfl, by assumption, ⟨_, _, x, et, rfl, by (with_reducible (apply TuP.le); (focus assumption); assumption), by (with_reducible (apply TreeV.le); (focus assumption); (apply TreeV.le); (focus assumption); (apply TreeV.le); (focus assumption); assumption), ⟨et, _, rfl, by (with_reducible (apply TuP.le); (focus assumption); (apply TuP.le); (focus assumption); assumption)⟩⟩⟩), rfl⟩
  · (with_reducible refine T3.sIf ?_; refine T3.isCmp ?_ rfl); refine T3.nL (by kernel_rfl) rfl ?_; refine T3.cint ?_; intro _; (with_reducible refine T3.iEq ?_; refine T3.truB ?_; refine no rfl ?_; refine T3.ss0 ?_; refine Nx.nx ?_; refine T3.ss1 ?_; refine T3.sIf ?_; refine T3.isCmp ?_ rfl); refine T3.nL (by kernel_rfl) rfl ?_; refine T3.cint ?_; intro _; (with_reducible refine T3.iEq ?_; refine T3.truB ?_; refine no rfl ?_; refine T3.ss0 ?_; refine Nx.nx ?_; refine T3.ss1 ?_; refine T3.sIf ?_; refine T3.isCmp ?_ rfl); refine T3.nL (by kernel_rfl) rfl ?_; refine T3.cint ?_; intro _; (with_reducible refine T3.iEq ?_; refine T3.truB ?_; refine no rfl ?_; refine T3.ss0 ?_; refine Nx.nx ?_; refine T3.ss1 ?_; refine T3.sRet ?_; refine T3.tup ?_ rfl; refine T3.ar1 ?_); refine T3.cstr ?_; intro _; (with_reducible refine T3.ar1 ?_; refine T3.tup ?_ rfl; refine T3.ar1 ?_); refine T3.cstr ?_; intro _; (with_reducible refine T3.ar1 ?_; refine T3.calln ?_ rfl); refine T3.nG (by assumption) (by kernel_rfl) rfl ?_; refine T3.cw0 (by assumption) rfl ?_; (with_reducible refine T3.ar1 ?_); refine T3.cstr ?_; intro _; (with_reducible refine T3.ar0 ?_)
    refine T3.fr0 sa ?_ (fun _ _ _ q => q.2)
    rintro _ P1 l1 ⟨hv, _⟩
    obtain ⟨x, rfl⟩ := hv.ref
    (with_reducible refine T3.ar1 ?_; refine T3.calln ?_ rfl); refine T3.nG (by assumption) (by kernel_rfl) rfl ?_; refine T3.cw0 (by assumption) rfl ?_; (with_reducible refine T3.ar1 ?_); refine T3.cstr ?_; intro _; (with_reducible refine T3.ar0 ?_)
    refine T3.fr0 sb ?_ (fun _ _ _ q => q.2)
    rintro _ P2 l2 ⟨hv2, _⟩
    obtain ⟨x2, rfl⟩ := hv2.ref
    (with_reducible refine T3.ar0 ?_); refine T3.newTu (lit rfl) ?_; intro _ _ _ _; (with_reducible refine T3.ar0 ?_); refine T3.newTu (lit rfl) ?_; intro _ _ _ _; (with_reducible refine Nx.ret ?_)
    exact Bk.mk ⟨(show BaseV _ _ [34, 97, 98, 34] (.cat (.chr 97) (.chr 98)) from ⟨_, _, _, rfl, by assumption, ⟨_, _, x, x2, rfl, by (with_reducible (apply TuP.le); (focus assumption); assumption), by (with_reducible (apply TreeV.le); (focus assumption); (apply TreeV.le); (focus assumption); (apply TreeV.le); (focus assumption); assumption), by (with_reducible (apply TreeV.le); (focus assumption); (apply TreeV.le); (focus assumption); assumption)⟩⟩), rfl⟩
  · omega
end
inductive Trees (P : Vw) : List Value → List Tr → Prop
  | nil : Trees P [] []
  | cons {v t vs ts} (h : TreeV P v t) (r : Trees P vs ts) : Trees P (v :: vs) (t :: ts)
theorem Trees.le {P P' : Vw} (q : Le P P') {vs : List Value} {ts : List Tr} (h : Trees P vs ts) : Trees P' vs ts := by
  induction h with
  | nil => exact .nil
  | cons h _ ih => exact .cons (h.le q) ih
theorem Trees.app {P : Vw} {vs us : List Value} {ts rs : List Tr} (h : Trees P vs ts) (g : Trees P us rs) : Trees P (vs ++ us) (ts ++ rs) := by
  induction h with
  | nil => exact g
  | cons h _ ih => exact .cons h ih
theorem Trees.rev {P : Vw} {vs : List Value} {ts : List Tr} (h : Trees P vs ts) : Trees P vs.reverse ts.reverse := by
  induction h with
  | nil => exact .nil
  | cons h _ ih => rw [List.reverse_cons, List.reverse_cons]; exact ih.app (.cons h .nil)
theorem Trees.len {P : Vw} {vs : List Value} {ts : List Tr} (h : Trees P vs ts) : vs.length = ts.length := by
  induction h with
  | nil => rfl
  | cons _ _ ih => simp [ih]
theorem Trees.at {P : Vw} {vs : List Value} {ts : List Tr} (h : Trees P vs ts) : ∀ {i : Nat} {v : Value}, vs[i]? = some v → ∃ t, ts[i]? = some t ∧ TreeV P v t := by
  induction h with
  | nil => intro i v e; simp at e
  | cons h _ ih =>
    intro i v e
    cases i with
    | zero => obtain rfl : _ = v := by simpa using e
              exact i1x2 _ rfl h
    | succ i => exact ih (by simpa using e)
theorem TreeV.tup {P : Vw} {x : Addr} : ∀ {t : Tr}, TreeV P (.ref x) t → ∃ k rest, TuP P x (.str t.nm k :: rest) ∧ rest.length ≤ 2
  | .chr _, ⟨_, _, _, e, h, _⟩ => by cases e; exact ⟨_, _, h, lit rfl⟩
  | .emp, ⟨_, _, e, h⟩ => by cases e; exact ⟨_, _, h, lit rfl⟩
  | .cat _ _, ⟨_, _, _, _, e, h, _⟩ => by cases e; exact ⟨_, _, h, lit rfl⟩
  | .alt _ _, ⟨_, _, _, _, e, h, _⟩ => by cases e; exact ⟨_, _, h, lit rfl⟩
  | .loop _ _, ⟨_, _, _, e, h, _⟩ => by cases e; exact ⟨_, _, h, lit rfl⟩
theorem TreeV.two {P : Vw} {x : Addr} {k : PK} {l r : Tr} (h : TreeV P (.ref x) (mkp k l r)) : ∃ t a b, TuP P x [.str (mkp k l r).nm t, .ref a, .ref b] ∧ TreeV P (.ref a) l ∧ TreeV P (.ref b) r := by
  cases k
  all_goals
    refine e4x4 (h) ?_; rintro _ t a b e h1 h2 h3
    cases e
    exact i3x3 t a b h1 h2 h3
section
variable {c : Cx} {A : Around} {P : Vw} {σ : St} {E : Value → Vw → St → Prop} {env : Env} {a b x : Addr} {xs : List Value} {t l r : Tr}
theorem law_row_ (kf : KF c) (hr : Room A 3) (k : PK) (h : TreeV P (.ref x) (mkp k l r)) (hz : (mkp k l r).sz ≤ 10000) :
    T3 c A (PySem.call (.ref 1007) [.ref x]) P [] (fun v P' σ' => (∃ a xs, v = .ref a ∧ LiP P' a xs ∧ Trees P' xs (spl k (mkp k l r))) ∧ σ' = []) NoE := by
  let Q1 : KO Value := fun v P' σ' => (∃ a xs, v = .ref a ∧ LiP P' a xs ∧ Trees P' xs (spl k (mkp k l r))) ∧ σ' = []
  show T3 _ _ _ _ _ Q1 _
  refine T3.post (Q₁ := fun v P' σ' => ∃ a xs z, v = .ref a ∧ σ' = [(a, IsLi xs)] ++ z ∧ z.length = 2 ∧ Trees P' xs (spl k (mkp k l r))) ?_ ?_
  · refine T3.d0 kf.f__law_row [("tree", .ref x)] hr.dep (fun _ _ _ _ _ _ => by kernel_rfl) (by kernel_rfl) fun L cdv => ?_
    have hd : Room (A.deeper (mkE (fdS (topS 71)) (Str.ofString "_law_row") L 1007 cdv)) 2 := hr.deeper
    refine T3.ss1 (T3.sSw2 hd.no ?_ rfl rfl rfl)
    (with_reducible refine T3.lst ?_ rfl; refine T3.ar0 ?_); refine T3.newLi (lit rfl) ?_; intro _ _; refine T3.nL (by kernel_rfl) rfl ?_
    rename_i pl _
    intro P1 l1
    refine T3.st rfl ?_ (by kernel_rfl); refine T3.st rfl ?_ (by kernel_rfl); (with_reducible refine Nx.nx ?_; refine T3.ss1 ?_; refine T3.sWhile ?_)
    refine e2x2 (h.tup) ?_; rintro k0 rest0 ht0 hrl0
    let I1 : Tr → Vw → St → Prop := fun t P' σ' => ∃ y m xs ys, TreeV P' (.ref y) t ∧ σ' = [(L, NsP m), (pl, IsLi xs)] ∧ Has m [(Str.ofString "here", .ref y), (Str.ofString "parts", .ref pl), (Str.ofString "tree", .ref x)] ∧ Trees P' xs ys ∧ spl k t ++ ys.reverse = spl k (mkp k l r) ∧ t.sz + xs.length ≤ 10000
    refine C3.whileM Tr.sz I1 ?_ (mkp k l r)
      ⟨x, _, [], [], h.le l1, rfl, by repeat (first | exact Has.nil | refine Has.cons rfl ?_), .nil, by simp, by simpa using hz⟩
    rintro t P2 _ l2 hqa; refine e4x6 hqa ?_; clear hqa; rintro y m xs ys hn hra hm hns hsp hsz; subst hra
    refine T3.forget hm ?_
    refine e2x2 (hn.tup) ?_; rintro k1 rest1 ht1 hrl1
    have ht2 := (ht0.le l1).le l2
    (with_reducible refine T3.isCmp ?_ rfl); refine T3.subG ?_ (fun _ _ => rfl); refine T3.nL (by kernel_rfl) rfl ?_; refine T3.cint ?_; intro _; refine T3.gTu (by with_reducible assumption) ?_
    refine T3.tItem (k := 0) ht1 rfl rfl (by rw [sizeLine_eq]; simp; omega) ?_
    refine T3.subG ?_ (fun _ _ => rfl); refine T3.nL (by kernel_rfl) rfl ?_; refine T3.cint ?_; intro _; refine T3.gTu (by with_reducible assumption) ?_
    refine T3.tItem (k := 0) ht2 rfl rfl (by rw [sizeLine_eq]; simp; omega) ?_
    (with_reducible refine T3.sEq ?_; refine T3.truB ?_)
    rcases isP t k l r with ⟨l', r', rfl⟩ | ⟨hne, hs1⟩
    · refine yes (by rw [mkp_nm, mkp_nm]; exact beq_self_eq_true _) ?_
      refine e3x3 (hn.two) ?_; rintro kt a b ht3 ha hb
      (with_reducible refine T3.ss1 ?_); refine T3.sExpr ?_ (by first | assumption | kernel_rfl) rfl; refine T3.callm ?_ rfl rfl rfl (lit rfl); refine T3.nL (by kernel_rfl) rfl ?_; refine T3.mLi F.slot_list_append F.type_list_append (List.mem_cons_of_mem _ List.mem_cons_self) ?_; (with_reducible refine T3.cwB1 ?_; refine T3.ar1 ?_); refine T3.subG ?_ (fun _ _ => rfl); refine T3.nL (by kernel_rfl) rfl ?_; refine T3.cint ?_; intro _; refine T3.gTu (by with_reducible assumption) ?_
      refine T3.tItem (k := 2) ht3 rfl rfl (by rw [sizeLine_eq]; simp) ?_
      (with_reducible refine T3.ar0 ?_)
      refine T3.lAppend (pre := [_]) (by rw [sizeLine_eq]; omega) ?_
      simp only [List.cons_append, List.nil_append, List.append_nil]
      (with_reducible refine Nx.nx ?_; refine T3.ss1 ?_); refine T3.sAsg ?_ rfl rfl rfl; refine T3.subG ?_ (fun _ _ => rfl); refine T3.nL (by kernel_rfl) rfl ?_; refine T3.cint ?_; intro _; refine T3.gTu (by with_reducible assumption) ?_
      refine T3.tItem (k := 1) ht3 rfl rfl (by rw [sizeLine_eq]; simp) ?_
      (with_reducible refine T3.aName ?_); refine T3.st rfl ?_ (by kernel_rfl); (with_reducible refine Nx.nx ?_; refine T3.ss0 ?_)
      have hsz' : l'.sz + r'.sz + 1 + xs.length ≤ 10000 := by cases k <;> exact hsz
      have h0 : 0 < r'.sz := r'.sz_pos
      refine ⟨l', by cases k <;> (show _ < l'.sz + r'.sz + 1; omega), i4x6 a _ _ (ys ++ [r']) ha rfl (by repeat (first | exact Has.nil | refine Has.cons rfl ?_)) (hns.app (.cons hb .nil)) ?_ ?_⟩
      · rw [← hsp, spl_mkp]; simp
      · simp; omega
    · refine no hne ?_
      refine T3.freezeLi (pre := [_]) fun P3 l3 hb => ?_
      simp only [List.cons_append, List.nil_append, List.append_nil]
      (with_reducible refine T3.ss0 ?_; refine Nx.nx ?_; refine T3.ss1 ?_; refine T3.sRet ?_; refine T3.binop ?_; refine T3.lst ?_ rfl; refine T3.ar1 ?_); refine T3.nL (by kernel_rfl) rfl ?_; (with_reducible refine T3.ar0 ?_); refine T3.newLi (lit rfl) ?_; intro _ _; refine T3.subSl ?_ (fun _ _ => ⟨_, rfl⟩); refine T3.nL (by kernel_rfl) rfl ?_; (with_reducible refine T3.part0 ?_; refine T3.part0 ?_; refine T3.part1 ?_; refine T3.unop ?_); refine T3.cint ?_; intro _; refine T3.iNeg ?_; intro _
      intro sl P4 l4 hsl
      refine T3.gLi (by (with_reducible (apply LiP.le); (focus assumption); assumption)) ?_
      refine T3.lSlice (ys := xs.reverse) (lo := none) (hi := none) (st := some (-1)) (by (with_reducible (apply LiP.le); (focus assumption); assumption)) hsl .none .none (.int _ _) (by simp) (by rw [sizeLine_eq]; omega) (pick_back _) ?_
      intro b _
      refine T3.lAdd (xs := [.ref y]) (ys := xs.reverse) (by exact (List.mem_cons_of_mem _ (List.mem_cons_of_mem _ List.mem_cons_self))) (by exact (List.mem_cons_of_mem _ List.mem_cons_self)) (by rw [sizeLine_eq]; simp; omega) fun d _ => ?_
      (with_reducible refine Nx.ret ?_)
      refine Bk.mk (i3x4 d _ _ rfl rfl rfl ?_)
      rw [← hsp, hs1]
      exact Trees.cons ((hn.le l3).le l4) ((hns.rev.le l3).le l4)
  · rintro _ P1 _ l1 hqa; refine e3x4 hqa ?_; clear hqa; rintro a xs z hra hrb hz2 hns; subst hra; subst hrb
    obtain ⟨z1, z2, rfl⟩ : ∃ z1 z2, z = [z1, z2] := by
      match z, hz2 with
      | [z1, z2], _ => exact ⟨z1, z2, rfl⟩
    refine Gs.freezeLi (pre := []) fun P2 l2 hl => ?_
    exact Gs.drop (Gs.drop (Gs.now ⟨⟨a, xs, rfl, hl, hns.le l2⟩, rfl⟩))
end
section
variable {c : Cx}
theorem da_strs {P : Vw} {a : Addr} {vs : List Value} {ws : List Str} (ht : TuP P a vs) (h : ∃ ts : List Tok, vs = (ws.zip ts).map (fun p => Value.str p.1 p.2) ∧ ts.length = ws.length) : DaP P (.ref a) (.tuple (ws.map PyData.str)) := by
  obtain ⟨ts, rfl, hl⟩ := h
  refine DaP.tuple ht ?_
  clear ht
  induction ws generalizing ts with
  | nil => exact .nil
  | cons w ws ih =>
    cases ts with
    | nil => simp at hl
    | cons t ts => exact .cons .str (ih ts (by simpa using hl))
theorem nm_lay (t : Tr) : (PyData.str t.nm).canLay0 = true := by
  cases t with
  | loop k b => cases k <;> kernel_rfl
  | _ => kernel_rfl
theorem law_needed_ (kf : KF c) : ∀ (n : Nat) (t : Tr), t.sz ≤ n → ∀ {A : Around} {P : Vw} {x : Addr} {p : Nat} {tp : Tok}, Room A (t.ht + 8) → t.sz ≤ 10000 → TreeV P (.ref x) t → T3 c A (PySem.call (.ref 1012) [.ref x, .int p tp]) P [] (fun v P' σ' => (∃ k, v = .int (need t p) k) ∧ σ' = []) NoE := by
  intro n
  induction n with
  | zero => intro t h; exact absurd h (by have := t.sz_pos; omega)
  | succ n ih =>
    intro t hn A P x p tp hr hz h
    refine T3.dC0 kf.f__law_needed [(Str.ofString "place", .int p tp), (Str.ofString "tree", .ref x)] (Str.ofString "inner") hr.dep (fun name doc pm cdv ct an τ s g => BindsTo.of_eq (by kernel_rfl)) (by kernel_rfl) (fun _ => rfl) ⟨by kernel_rfl, by kernel_rfl, by kernel_rfl⟩ fun L ca cdv => ?_
    have hd : Room (A.deeper (mkEC (fdS (topS 72)) (Str.ofString "_law_needed") L 1012 cdv (Str.ofString "inner") ca)) (t.ht + 7) := hr.deeper
    have hu : (A.deeper (mkEC (fdS (topS 72)) (Str.ofString "_law_needed") L 1012 cdv (Str.ofString "inner") ca)).units + 70 < cLine := by have := hd.2.1; omega
    refine e2x2 (h.tup) ?_; rintro k0 rest0 ht0 hrl0
    have loopPart : (∀ l r, t ≠ .cat l r) → (∀ l r, t ≠ .alt l r) → ∀ {P2 : Vw}, Le P P2 → T3 c (A.deeper (mkEC (fdS (topS 72)) (Str.ofString "_law_needed") L 1012 cdv (Str.ofString "inner") ca)) (execs ((fdB (topS 72)).drop 1) (mkEC (fdS (topS 72)) (Str.ofString "_law_needed") L 1012 cdv (Str.ofString "inner") ca)) P2
        [(L, NsP [(Str.ofString "place", .int p tp), (Str.ofString "tree", .ref x)]), (ca, CeP none)] (Bk L fun v P' σ' => ∃ φ σ'', σ' = (ca, φ) :: σ'' ∧ ((∃ k, v = .int (need t p) k) ∧ σ'' = [])) NoE := by
      intro nc na P2 l2
      refine T3.ss1 (T3.sSw2 hd.no ?_ rfl rfl rfl)
      refine T3.cint ?_; intro _; refine T3.nL (by kernel_rfl) rfl ?_
      intro P3 l3
      refine T3.st rfl ?_ (by kernel_rfl); refine T3.st rfl ?_ (by kernel_rfl); (with_reducible refine Nx.nx ?_; refine T3.ss1 ?_; refine T3.sWhile ?_)
      let R1 : KO Result := fun r P' σ' => r = .ok .next ∧ ∃ t' y m, ∃ n' : Nat, ∃ kk, σ' = [(L, NsP m), (ca, CeP none)] ∧ Has m [(Str.ofString "here", .ref y), (Str.ofString "count", .int (n' : Nat) kk)] ∧ TreeV P' (.ref y) t' ∧ (n' = 0 → t' = t) ∧ (n' ≠ 0 → need2 t' n' 2 = need t p ∧ t'.sz < t.sz ∧ t'.ht < t.ht) ∧ ∀ k b, t' ≠ .loop k b
      let I1 : Tr → Vw → St → Prop := fun t' P' σ' => ∃ y m, ∃ n' : Nat, ∃ kk, σ' = [(L, NsP m), (ca, CeP none)] ∧ Has m [(Str.ofString "here", .ref y), (Str.ofString "count", .int (n' : Nat) kk)] ∧ TreeV P' (.ref y) t' ∧ (n' = 0 → t' = t) ∧ (n' ≠ 0 → need2 t' n' 2 = need t p ∧ t'.sz < t.sz ∧ t'.ht < t.ht) ∧ t'.sz + n' ≤ 10000
      refine C3.mono (R := R1) (C3.whileM Tr.sz I1 ?_ t
        ⟨x, _, 0, _, rfl, by repeat (first | exact Has.nil | refine Has.cons rfl ?_), (h.le l2).le l3, fun _ => rfl, fun q => absurd rfl q, hz⟩) ?_
      · rintro t' P4 _ l4 hqa; refine e4x6 hqa ?_; clear hqa; rintro y m n' kk hra hm hn' h0 h1 hsz; subst hra
        refine T3.forget hm ?_
        refine e2x2 (hn'.tup) ?_; rintro k1 rest1 ht1 hrl1
        (with_reducible refine T3.isCmp ?_ rfl); refine T3.subG ?_ (fun _ _ => rfl); refine T3.nL (by kernel_rfl) rfl ?_; refine T3.cint ?_; intro _; refine T3.gTu (by with_reducible assumption) ?_
        refine T3.tItem (k := 0) ht1 rfl rfl (by rw [sizeLine_eq]; simp; omega) ?_
        (with_reducible refine T3.tup ?_ rfl; refine T3.ar1 ?_); refine T3.cstr ?_; intro _; (with_reducible refine T3.ar1 ?_); refine T3.cstr ?_; intro _; (with_reducible refine T3.ar1 ?_); refine T3.cstr ?_; intro _; (with_reducible refine T3.ar0 ?_); refine T3.newTu (lit rfl) ?_; intro _ _ _ _
        rename_i tt P5 l5 htt
        refine T3.daIn (da_strs (ws := [Str.ofString "star", Str.ofString "plus", Str.ofString "opt"]) htt ⟨[_, _, _], rfl, rfl⟩) DaP.str (by kernel_rfl) (nm_lay t') (by
          have : min (PyData.depthAll ([Str.ofString "star", Str.ofString "plus", Str.ofString "opt"].map PyData.str)) (PyData.str t'.nm).depth ≤ PyData.depthAll ([Str.ofString "star", Str.ofString "plus", Str.ofString "opt"].map PyData.str) := Nat.min_le_left _ _
          have h3 : PyData.depthAll ([Str.ofString "star", Str.ofString "plus", Str.ofString "opt"].map PyData.str) ≤ 60 := by decide
          omega) ?_
        by_cases hl : ∃ k b, t' = .loop k b
        · refine e2x1 (hl) ?_; rintro k b hra; subst hra
          refine e3x3 (hn') ?_; rintro _ tk a e hi' hb'
          cases e
          have hlt : b.sz < (Tr.loop k b).sz := by show b.sz < b.sz + 1; omega
          have hs2 : b.sz + 1 + n' ≤ 10000 := hsz
          have hi5 := hi'.le l5
          have hne : need2 b (n' + 1) 2 = need t p ∧ b.sz < t.sz ∧ b.ht < t.ht := by
            by_cases q : n' = 0
            · subst q
              have e := h0 rfl
              subst e
              exact i0x3 rfl (by show b.sz < b.sz + 1; omega) (by show b.ht < b.ht + 1; omega)
            · refine e0x3 (h1 q) ?_; rintro g1 g2 g3
              have g2' : b.sz + 1 < t.sz := g2
              have g3' : b.ht + 1 < t.ht := g3
              exact i0x3 g1 (by omega) (by omega)
          (with_reducible refine T3.truB ?_)
          refine yes (by cases k <;> kernel_rfl) ?_
          refine T3.ss1 (T3.sSw2 hd.no ?_ rfl rfl rfl)
          (with_reducible refine T3.binop ?_); refine T3.nL (by kernel_rfl) rfl ?_; refine T3.cint ?_; intro _; refine T3.iAdd ?_; intro _; refine T3.subG ?_ (fun _ _ => rfl); refine T3.nL (by kernel_rfl) rfl ?_; refine T3.cint ?_; intro _; refine T3.gTu (by with_reducible assumption) ?_
          refine T3.tItem (k := 1) hi5 rfl rfl (by rw [sizeLine_eq]; simp) ?_
          intro P6 l6
          refine T3.st rfl ?_ (by kernel_rfl); refine T3.st rfl ?_ (by kernel_rfl); (with_reducible refine Nx.nx ?_; refine T3.ss0 ?_)
          exact ⟨b, hlt, i4x6 a _ (n' + 1) _ rfl (by repeat (first | exact Has.nil | refine Has.cons rfl ?_)) ((hb'.le l5).le l6) (fun q => absurd q (by omega)) (fun _ => hne) (by omega)⟩
        · (with_reducible refine T3.truB ?_)
          refine no (by
            cases t' with
            | loop k b => exact absurd ⟨_, _, rfl⟩ hl
            | _ => kernel_rfl) ?_
          (with_reducible refine T3.ss0 ?_)
          exact ⟨rfl, i5x6 t' y _ n' kk rfl (by repeat (first | exact Has.nil | refine Has.cons rfl ?_)) (hn'.le l5) h0 h1 (fun k b e => hl ⟨k, b, e⟩)⟩
      · rintro r P4 _ l4 hqa; obtain ⟨rfl, hqb⟩ := hqa; refine e5x6 hqb ?_; clear hqb; rintro t' y m n' kk hra hm hn' h0 h1 hnl; subst hra
        show Nx _ _ _ _ _ _ _ _ _
        refine Nx.nx ?_
        refine T3.forget hm ?_
        (with_reducible refine T3.ss1 ?_; refine T3.sIf ?_; refine T3.isCmp ?_ rfl); refine T3.nL (by kernel_rfl) rfl ?_; refine T3.cint ?_; intro _; (with_reducible refine T3.iEq ?_; refine T3.truB ?_)
        by_cases hq : n' = 0
        · subst hq
          have e := h0 rfl
          subst e
          refine e2x2 (hn'.tup) ?_; rintro k1 rest1 ht1 hrl1
          refine yes rfl ?_
          (with_reducible refine T3.ss1 ?_; refine T3.sRet ?_; refine T3.ifexp ?_; refine T3.isCmp ?_ rfl); refine T3.subG ?_ (fun _ _ => rfl); refine T3.nL (by kernel_rfl) rfl ?_; refine T3.cint ?_; intro _; refine T3.gTu (by with_reducible assumption) ?_
          refine T3.tItem (k := 0) ht1 rfl rfl (by rw [sizeLine_eq]; simp; omega) ?_
          cases t' with
          | chr ch =>
            refine T3.cstr ?_; intro _; (with_reducible refine T3.sEq ?_; refine T3.truB ?_; refine no rfl ?_); refine T3.cint ?_; intro _; (with_reducible refine Nx.ret ?_; refine Nx.ret ?_)
            exact Bk.mk (i2x3 _ _ rfl ⟨_, rfl⟩ rfl)
          | emp =>
            refine T3.cstr ?_; intro _; (with_reducible refine T3.sEq ?_; refine T3.truB ?_; refine yes rfl ?_); refine T3.cint ?_; intro _; (with_reducible refine Nx.ret ?_; refine Nx.ret ?_)
            exact Bk.mk (i2x3 _ _ rfl ⟨_, rfl⟩ rfl)
          | cat l r => exact absurd rfl (nc l r)
          | alt l r => exact absurd rfl (na l r)
          | loop k b => exact absurd rfl (hnl k b)
        · refine e0x3 (h1 hq) ?_; rintro g1 g2 g3
          refine no (by simp; omega) ?_
          (with_reducible refine T3.ss0 ?_; refine Nx.nx ?_; refine T3.ss1 ?_; refine T3.sRet ?_; refine T3.binop ?_; refine T3.calln ?_ rfl); refine T3.nG (by assumption) (by kernel_rfl) rfl ?_; refine T3.cw0 (by assumption) rfl ?_; (with_reducible refine T3.ar1 ?_); refine T3.nL (by kernel_rfl) rfl ?_; (with_reducible refine T3.ar1 ?_); refine T3.cint ?_; intro _; (with_reducible refine T3.ar0 ?_)
          refine T3.fr0 (ih t' (by omega) (p := 2) (tp := _) (hd.le (by omega)) (by omega) hn') ?_ (fun _ _ _ q => q.2)
          rintro _ P5 l5 ⟨⟨k5, rfl⟩, _⟩
          (with_reducible refine T3.binop ?_; refine T3.binop ?_); refine T3.nL (by kernel_rfl) rfl ?_; refine T3.cint ?_; intro _; refine T3.iSub ?_; intro _; refine T3.cint ?_; intro _
          refine T3.iDiv (by decide) rfl fun _ => ?_
          refine T3.iAdd ?_; intro _; (with_reducible refine Nx.ret ?_)
          exact Bk.mk (i2x3 _ _ rfl ⟨_, congrArg (fun i => Value.int i _) (by rw [← g1, need_loops t' n' 2 hnl]; exact castDiv hq)⟩ rfl)
    refine T3.ss1 ?_
    (with_reducible refine T3.sIf ?_; refine T3.isCmp ?_ rfl); refine T3.subG ?_ (fun _ _ => rfl); refine T3.nL (by kernel_rfl) rfl ?_; refine T3.cint ?_; intro _; refine T3.gTu (by with_reducible assumption) ?_
    refine T3.tItem (k := 0) ht0 rfl rfl (by rw [sizeLine_eq]; simp; omega) ?_
    (with_reducible refine T3.tup ?_ rfl; refine T3.ar1 ?_); refine T3.cstr ?_; intro _; (with_reducible refine T3.ar1 ?_); refine T3.cstr ?_; intro _; (with_reducible refine T3.ar0 ?_); refine T3.newTu (lit rfl) ?_; intro _ _ _ _
    rename_i tt P1 l1 htt
    refine T3.daIn (da_strs (ws := [Str.ofString "alt", Str.ofString "cat"]) htt ⟨[_, _], rfl, rfl⟩) DaP.str (by kernel_rfl) (nm_lay t) (by
      have : min (PyData.depthAll ([Str.ofString "alt", Str.ofString "cat"].map PyData.str)) (PyData.str t.nm).depth ≤ PyData.depthAll ([Str.ofString "alt", Str.ofString "cat"].map PyData.str) := Nat.min_le_left _ _
      have h3 : PyData.depthAll ([Str.ofString "alt", Str.ofString "cat"].map PyData.str) ≤ 60 := by decide
      omega) ?_
    cases t with
    | cat l r =>
      (with_reducible refine T3.truB ?_; refine yes rfl ?_; refine T3.ss1 ?_); refine T3.sAsg ?_ rfl rfl rfl; (with_reducible refine T3.ifexp ?_; refine T3.isCmp ?_ rfl); refine T3.subG ?_ (fun _ _ => rfl); refine T3.nL (by kernel_rfl) rfl ?_; refine T3.cint ?_; intro _; refine T3.gTu (by (with_reducible (apply TuP.le); (focus assumption); assumption)) ?_
      refine T3.tItem (k := 0) (ht0.le l1) rfl rfl (by rw [sizeLine_eq]; simp; omega) ?_
      refine T3.cstr ?_; intro _; (with_reducible refine T3.sEq ?_; refine T3.truB ?_; refine no rfl ?_); refine T3.cint ?_; intro _; (with_reducible refine T3.aName ?_)
      refine T3.stC (v₀ := none) (by kernel_rfl) (by kernel_rfl) rfl ?_
      (with_reducible refine Nx.nx ?_; refine T3.ss1 ?_; refine T3.sRet ?_; refine T3.binop ?_; refine T3.calln ?_ rfl); refine T3.nB (by assumption) (by kernel_rfl) (by boot_by_name) ?_; (with_reducible refine T3.cwB ?_; refine T3.ar1 ?_)
      refine T3.eLC (cl := [(Str.ofString "inner", ca)]) hd.no (fun _ => rfl) rfl (by kernel_rfl) rfl (by kernel_rfl) rfl ?_
      (with_reducible refine T3.calln ?_ rfl); refine T3.nG (by assumption) (by kernel_rfl) rfl ?_; refine T3.cw0 (by assumption) rfl ?_; (with_reducible refine T3.ar1 ?_); refine T3.nL (by kernel_rfl) rfl ?_; (with_reducible refine T3.ar0 ?_)
      refine T3.fr0 (law_row_ kf (hd.le (lit rfl)) .cat (l := l) (r := r) (h.le l1) hz) ?_ (fun _ _ _ q => q.2)
      rintro _ P2 l2 hqa; obtain ⟨hqb, _⟩ := hqa; refine e2x3 hqb ?_; clear hqb; rintro ra xs hra hls hns0; subst hra
      have hns : Trees P2 xs (spl .cat (.cat l r)) := hns0
      have subs : ∀ q, q ∈ spl .cat (.cat l r) → q.ht < (Tr.cat l r).ht ∧ q.sz < (Tr.cat l r).sz := fun q hq => mkp_sub .cat l r q hq
      refine ⟨xs.length, _, fun i y P' => ∃ q k, (spl .cat (.cat l r))[i]? = some q ∧ y = .int (need q 2) k, ⟨ItK.li hls, by have := hns.len; have := spl_len .cat (.cat l r); rw [sizeLine_eq]; omega, ?_, ?_, ?_⟩⟩
      · rintro i y P2 P3 l hqa; refine e2x2 hqa ?_; clear hqa; rintro q k h1 h2
        exact i2x2 q k h1 h2
      · intro C i v P3 l3 hil hvi
        refine e1x2 (hns.at hvi) ?_; rintro q hq hqn
        obtain ⟨z, rfl⟩ := hqn.ref
        have sq := subs q (List.mem_of_getElem? hq)
        (with_reducible refine T3.calln ?_ rfl); refine T3.nG (by assumption) (by kernel_rfl) rfl ?_; refine T3.cw0 (by assumption) rfl ?_; (with_reducible refine T3.ar1 ?_); refine T3.nL (by kernel_rfl) rfl ?_; (with_reducible refine T3.ar1 ?_)
        refine T3.ldC (by kernel_rfl) (by kernel_rfl) rfl (by exact (List.mem_cons_of_mem _ (List.mem_cons_of_mem _ List.mem_cons_self))) (by kernel_rfl) ?_
        (with_reducible refine T3.ar0 ?_)
        refine T3.fr0 (ih q (by omega) (p := 2) (tp := _) (hd.le (by omega)) (by omega) (hqn.le l3)) ?_ (fun _ _ _ q => q.2)
        rintro _ P4 l4 ⟨⟨k, rfl⟩, _⟩
        exact ⟨rfl, i2x2 q k hq rfl⟩
      · intro Dl ys P3 l3 hly hF
        show T3 c _ _ _ _ _ _
        (with_reducible refine T3.ar0 ?_)
        refine T3.freezeLi (pre := [_]) fun P4 l4 hb => ?_
        simp only [List.cons_append, List.nil_append, List.append_nil]
        have hI := ints_of (f := fun q => (need q (inn .cat) : Int)) ys (spl .cat (.cat l r)) (by rw [hly]; exact hns.len) hF
        refine T3.lMax hd.no hb hI (by rw [List.length_map]; exact List.length_pos_iff.mpr (spl_ne _ _)) fun M k hM hmx => ?_
        obtain rfl := max_of hM hmx
        (with_reducible refine T3.ifexp ?_; refine T3.isCmp ?_ rfl); refine T3.nL (by kernel_rfl) rfl ?_
        refine T3.ldC (by kernel_rfl) (by kernel_rfl) rfl (by exact (List.mem_cons_of_mem _ List.mem_cons_self)) (by kernel_rfl) ?_
        (with_reducible refine T3.iGe ?_; refine T3.truB ?_)
        have e1 := need_cat l r p
        have e2 : (if isPk .cat (.cat l r) = true then 0 else inn .cat) = 0 := rfl
        by_cases hp : 2 ≤ p
        · refine yes (by simp; omega) ?_
          refine T3.cint ?_; intro _; refine T3.iAdd ?_; intro _; (with_reducible refine Nx.ret ?_; refine Nx.ret ?_)
          exact Bk.mk (i2x3 _ _ rfl ⟨_, congrArg (fun i => Value.int i _) (by rw [e2]; simp only [hp, if_true, if_false] at e1; omega)⟩ rfl)
        · refine no (by simp; omega) ?_
          refine T3.cint ?_; intro _; refine T3.iAdd ?_; intro _; (with_reducible refine Nx.ret ?_; refine Nx.ret ?_)
          exact Bk.mk (i2x3 _ _ rfl ⟨_, congrArg (fun i => Value.int i _) (by rw [e2]; simp only [hp, if_true, if_false] at e1; omega)⟩ rfl)
    | alt l r =>
      (with_reducible refine T3.truB ?_; refine yes rfl ?_; refine T3.ss1 ?_); refine T3.sAsg ?_ rfl rfl rfl; (with_reducible refine T3.ifexp ?_; refine T3.isCmp ?_ rfl); refine T3.subG ?_ (fun _ _ => rfl); refine T3.nL (by kernel_rfl) rfl ?_; refine T3.cint ?_; intro _; refine T3.gTu (by (with_reducible (apply TuP.le); (focus assumption); assumption)) ?_
      refine T3.tItem (k := 0) (ht0.le l1) rfl rfl (by rw [sizeLine_eq]; simp; omega) ?_
      refine T3.cstr ?_; intro _; (with_reducible refine T3.sEq ?_; refine T3.truB ?_; refine yes rfl ?_); refine T3.cint ?_; intro _; (with_reducible refine T3.aName ?_)
      refine T3.stC (v₀ := none) (by kernel_rfl) (by kernel_rfl) rfl ?_
      (with_reducible refine Nx.nx ?_; refine T3.ss1 ?_; refine T3.sRet ?_; refine T3.binop ?_; refine T3.calln ?_ rfl); refine T3.nB (by assumption) (by kernel_rfl) (by boot_by_name) ?_; (with_reducible refine T3.cwB ?_; refine T3.ar1 ?_)
      refine T3.eLC (cl := [(Str.ofString "inner", ca)]) hd.no (fun _ => rfl) rfl (by kernel_rfl) rfl (by kernel_rfl) rfl ?_
      (with_reducible refine T3.calln ?_ rfl); refine T3.nG (by assumption) (by kernel_rfl) rfl ?_; refine T3.cw0 (by assumption) rfl ?_; (with_reducible refine T3.ar1 ?_); refine T3.nL (by kernel_rfl) rfl ?_; (with_reducible refine T3.ar0 ?_)
      refine T3.fr0 (law_row_ kf (hd.le (lit rfl)) .alt (l := l) (r := r) (h.le l1) hz) ?_ (fun _ _ _ q => q.2)
      rintro _ P2 l2 hqa; obtain ⟨hqb, _⟩ := hqa; refine e2x3 hqb ?_; clear hqb; rintro ra xs hra hls hns0; subst hra
      have hns : Trees P2 xs (spl .alt (.alt l r)) := hns0
      have subs : ∀ q, q ∈ spl .alt (.alt l r) → q.ht < (Tr.alt l r).ht ∧ q.sz < (Tr.alt l r).sz := fun q hq => mkp_sub .alt l r q hq
      refine ⟨xs.length, _, fun i y P' => ∃ q k, (spl .alt (.alt l r))[i]? = some q ∧ y = .int (need q 1) k, ⟨ItK.li hls, by have := hns.len; have := spl_len .alt (.alt l r); rw [sizeLine_eq]; omega, ?_, ?_, ?_⟩⟩
      · rintro i y P2 P3 l hqa; refine e2x2 hqa ?_; clear hqa; rintro q k h1 h2
        exact i2x2 q k h1 h2
      · intro C i v P3 l3 hil hvi
        refine e1x2 (hns.at hvi) ?_; rintro q hq hqn
        obtain ⟨z, rfl⟩ := hqn.ref
        have sq := subs q (List.mem_of_getElem? hq)
        (with_reducible refine T3.calln ?_ rfl); refine T3.nG (by assumption) (by kernel_rfl) rfl ?_; refine T3.cw0 (by assumption) rfl ?_; (with_reducible refine T3.ar1 ?_); refine T3.nL (by kernel_rfl) rfl ?_; (with_reducible refine T3.ar1 ?_)
        refine T3.ldC (by kernel_rfl) (by kernel_rfl) rfl (by exact (List.mem_cons_of_mem _ (List.mem_cons_of_mem _ List.mem_cons_self))) (by kernel_rfl) ?_
        (with_reducible refine T3.ar0 ?_)
        refine T3.fr0 (ih q (by omega) (p := 1) (tp := _) (hd.le (by omega)) (by omega) (hqn.le l3)) ?_ (fun _ _ _ q => q.2)
        rintro _ P4 l4 ⟨⟨k, rfl⟩, _⟩
        exact ⟨rfl, i2x2 q k hq rfl⟩
      · intro Dl ys P3 l3 hly hF
        show T3 c _ _ _ _ _ _
        (with_reducible refine T3.ar0 ?_)
        refine T3.freezeLi (pre := [_]) fun P4 l4 hb => ?_
        simp only [List.cons_append, List.nil_append, List.append_nil]
        have hI := ints_of (f := fun q => (need q (inn .alt) : Int)) ys (spl .alt (.alt l r)) (by rw [hly]; exact hns.len) hF
        refine T3.lMax hd.no hb hI (by rw [List.length_map]; exact List.length_pos_iff.mpr (spl_ne _ _)) fun M k hM hmx => ?_
        obtain rfl := max_of hM hmx
        (with_reducible refine T3.ifexp ?_; refine T3.isCmp ?_ rfl); refine T3.nL (by kernel_rfl) rfl ?_
        refine T3.ldC (by kernel_rfl) (by kernel_rfl) rfl (by exact (List.mem_cons_of_mem _ List.mem_cons_self)) (by kernel_rfl) ?_
        (with_reducible refine T3.iGe ?_; refine T3.truB ?_)
        have e1 := need_alt l r p
        have e2 : (if isPk .alt (.alt l r) = true then 0 else inn .alt) = 0 := rfl
        by_cases hp : 1 ≤ p
        · refine yes (by simp; omega) ?_
          refine T3.cint ?_; intro _; refine T3.iAdd ?_; intro _; (with_reducible refine Nx.ret ?_; refine Nx.ret ?_)
          exact Bk.mk (i2x3 _ _ rfl ⟨_, congrArg (fun i => Value.int i _) (by rw [e2]; simp only [hp, if_true, if_false] at e1; omega)⟩ rfl)
        · refine no (by simp; omega) ?_
          refine T3.cint ?_; intro _; refine T3.iAdd ?_; intro _; (with_reducible refine Nx.ret ?_; refine Nx.ret ?_)
          exact Bk.mk (i2x3 _ _ rfl ⟨_, congrArg (fun i => Value.int i _) (by rw [e2]; simp only [hp, if_true, if_false] at e1; omega)⟩ rfl)
    | chr ch =>
      refine T3.truB ?_
      refine no (by kernel_rfl) ?_
      exact T3.ss0 (Nx.nx (loopPart (fun _ _ e => by cases e) (fun _ _ e => by cases e) l1))
    | emp =>
      refine T3.truB ?_
      refine no (by kernel_rfl) ?_
      exact T3.ss0 (Nx.nx (loopPart (fun _ _ e => by cases e) (fun _ _ e => by cases e) l1))
    | loop k b =>
      refine T3.truB ?_
      refine no (by cases k <;> kernel_rfl) ?_
      exact T3.ss0 (Nx.nx (loopPart (fun _ _ e => by cases e) (fun _ _ e => by cases e) l1))
end
noncomputable def flatF : Nat → List Nat → Bool
  | _, [] => true
  | r, ch :: cs => if (if ch ∈ [42, 43, 63] then r + 1 else 0) > 20 then false else flatF (if ch ∈ [42, 43, 63] then r + 1 else 0) cs
noncomputable def step (ch : Nat) : Int := if ch = 40 then 1 else if ch = 41 then -1 else 0
noncomputable def depM : Int → Int → List Nat → Int
  | _, m, [] => m
  | d, m, ch :: cs => depM (d + step ch) (if d + step ch > m then d + step ch else m) cs
section
variable {c : Cx} {A : Around} {P : Vw} {σ : St} {T : List Nat} {tt : Tok}
theorem law_flat_ (kf : KF c) (hr : Room A 3) (ha : T.all (· < 128) = true) (hf : flatF 0 T = true) : T3 c A (PySem.call (.ref 1040) [.str (S T) tt]) P [] (fun v P' σ' => v = .bool true ∧ σ' = []) NoE := by
  let Q1 : KO Value := fun v P' σ' => v = .bool true ∧ σ' = []
  show T3 _ _ _ _ _ Q1 _
  refine T3.d0 kf.f__law_is_flat [("text", .str (S T) tt)] hr.dep (fun _ _ _ _ _ _ => by kernel_rfl) (by kernel_rfl) fun L cdv => ?_
  have hd : Room (A.deeper (mkE (fdS (topS 76)) (Str.ofString "_law_is_flat") L 1040 cdv)) 2 := hr.deeper
  refine T3.ss1 ?_
  refine T3.sAsg ?_ rfl rfl rfl; refine T3.cint ?_; intro _; (with_reducible refine T3.aName ?_); refine T3.st rfl ?_ (by kernel_rfl); (with_reducible refine Nx.nx ?_; refine T3.ss1 ?_); refine T3.sFor ?_ (fun _ => rfl); refine T3.nL (by kernel_rfl) rfl ?_
  let I1 : Nat → Vw → St → Prop := fun i P' σ' => ∃ m, ∃ r : Nat, ∃ k, σ' = [(L, NsP m)] ∧ Has m [(Str.ofString "row", .int (r : Nat) k)] ∧ flatF r (T.drop i) = true
  refine T3.itS (ws := T) ha hd.no I1 ⟨_, 0, _, rfl, by repeat (first | exact Has.nil | refine Has.cons rfl ?_), hf⟩ ⟨?_, ?_⟩
  · rintro i v P1 _ l1 hi hqa hqb; refine e2x2 hqa ?_; clear hqa; rintro ch tk hch hra; subst hra; refine e3x3 hqb ?_; clear hqb; rintro m r k hrb hm hfl; subst hrb
    refine T3.forget hm ?_
    rw [List.drop_eq_getElem_cons hi] at hfl
    obtain rfl : T[i] = ch := by rw [List.getElem?_eq_getElem hi] at hch; simpa using hch
    unfold flatF at hfl
    (with_reducible refine T3.aName ?_); refine T3.st rfl ?_ (by kernel_rfl); (with_reducible refine T3.ss1 ?_); refine T3.sAsg ?_ rfl rfl rfl; (with_reducible refine T3.ifexp ?_; refine T3.isCmp ?_ rfl); refine T3.nL (by kernel_rfl) rfl ?_; refine T3.cstr ?_; intro _; (with_reducible refine T3.sIn ?_; refine T3.truB ?_)
    have e : Txt.contains (Str.ofString "*+?") (S [T[i]]) = decide (T[i] ∈ [42, 43, 63]) := S_contains [42, 43, 63] T[i]
    by_cases hin : T[i] ∈ [42, 43, 63]
    · refine yes (by rw [e]; simpa using hin) ?_
      simp only [if_pos hin] at hfl
      (with_reducible refine T3.binop ?_); refine T3.nL (by kernel_rfl) rfl ?_; refine T3.cint ?_; intro _; refine T3.iAdd ?_; intro _; (with_reducible refine T3.aName ?_); refine T3.st rfl ?_ (by kernel_rfl); (with_reducible refine Nx.nx ?_; refine T3.ss1 ?_; refine T3.sIf ?_; refine T3.isCmp ?_ rfl); refine T3.nL (by kernel_rfl) rfl ?_; refine T3.cint ?_; intro _; (with_reducible refine T3.iGt ?_; refine T3.truB ?_)
      split at hfl
      · cases hfl
      · rename_i hle
        refine no (by simp; omega) ?_
        (with_reducible refine T3.ss0 ?_; refine Nx.nx ?_; refine T3.ss0 ?_)
        exact i3x3 _ (r + 1) _ rfl (by repeat (first | exact Has.nil | refine Has.cons rfl ?_)) hfl
    · refine no (by rw [e]; simpa using hin) ?_
      simp only [if_neg hin] at hfl
      refine T3.cint ?_; intro _; (with_reducible refine T3.aName ?_); refine T3.st rfl ?_ (by kernel_rfl); (with_reducible refine Nx.nx ?_; refine T3.ss1 ?_; refine T3.sIf ?_; refine T3.isCmp ?_ rfl); refine T3.nL (by kernel_rfl) rfl ?_; refine T3.cint ?_; intro _; (with_reducible refine T3.iGt ?_; refine T3.truB ?_; refine no rfl ?_; refine T3.ss0 ?_; refine Nx.nx ?_; refine T3.ss0 ?_)
      split at hfl
      · cases hfl
      · exact i3x3 _ 0 _ rfl (by repeat (first | exact Has.nil | refine Has.cons rfl ?_)) hfl
  · rintro P1 _ l1 hqa; refine e3x3 hqa ?_; clear hqa; rintro m r k hra hm hfl; subst hra
    (with_reducible refine T3.ss0 ?_; refine Nx.nx ?_; refine T3.ss1 ?_; refine T3.sRet ?_; refine T3.cbool ?_; refine Nx.ret ?_)
    exact Bk.mk ⟨rfl, rfl⟩
theorem law_depth_ (kf : KF c) (hr : Room A 3) (ha : T.all (· < 128) = true) : T3 c A (PySem.call (.ref 1047) [.str (S T) tt]) P [] (fun v P' σ' => (∃ k, v = .int (depM 0 0 T) k) ∧ σ' = []) NoE := by
  let Q1 : KO Value := fun v P' σ' => (∃ k, v = .int (depM 0 0 T) k) ∧ σ' = []
  show T3 _ _ _ _ _ Q1 _
  refine T3.d0 kf.f__law_depth [("text", .str (S T) tt)] hr.dep (fun _ _ _ _ _ _ => by kernel_rfl) (by kernel_rfl) fun L cdv => ?_
  have hd : Room (A.deeper (mkE (fdS (topS 77)) (Str.ofString "_law_depth") L 1047 cdv)) 2 := hr.deeper
  refine T3.ss1 ?_
  refine T3.sAsg ?_ rfl rfl rfl; (with_reducible refine T3.tup ?_ rfl; refine T3.ar1 ?_); refine T3.cint ?_; intro _; (with_reducible refine T3.ar1 ?_); refine T3.cint ?_; intro _; (with_reducible refine T3.ar0 ?_); refine T3.newTu (lit rfl) ?_; intro _ _ _ _; refine T3.unp2 (Room.no (by assumption)) (by with_reducible assumption) ?_; (with_reducible refine T3.aName ?_); refine T3.st rfl ?_ (by kernel_rfl); (with_reducible refine T3.aName ?_); refine T3.st rfl ?_ (by kernel_rfl); (with_reducible refine Nx.nx ?_; refine T3.ss1 ?_); refine T3.sFor ?_ (fun _ => rfl); refine T3.nL (by kernel_rfl) rfl ?_
  let I2 : Nat → Vw → St → Prop := fun i P' σ' => ∃ m d mo k k2, σ' = [(L, NsP m)] ∧ Has m [(Str.ofString "depth", .int d k), (Str.ofString "most", .int mo k2)] ∧ depM d mo (T.drop i) = depM 0 0 T
  refine T3.itS (ws := T) ha hd.no I2 ⟨_, 0, 0, _, _, rfl, by repeat (first | exact Has.nil | refine Has.cons rfl ?_), rfl⟩ ⟨?_, ?_⟩
  · rintro i v P1 _ l1 hi hqa hqb; refine e2x2 hqa ?_; clear hqa; rintro ch tk hch hra; subst hra; refine e5x3 hqb ?_; clear hqb; rintro m d mo k k2 hrb hm hfl; subst hrb
    refine T3.forget hm ?_
    rw [List.drop_eq_getElem_cons hi] at hfl
    obtain rfl : T[i] = ch := by rw [List.getElem?_eq_getElem hi] at hch; simpa using hch
    have hfl : depM (d + step T[i]) (if d + step T[i] > mo then d + step T[i] else mo) (T.drop (i + 1)) = depM 0 0 T := hfl
    (with_reducible refine T3.aName ?_); refine T3.st rfl ?_ (by kernel_rfl); (with_reducible refine T3.ss1 ?_); refine T3.sAsg ?_ rfl rfl rfl; (with_reducible refine T3.binop ?_); refine T3.nL (by kernel_rfl) rfl ?_; (with_reducible refine T3.ifexp ?_; refine T3.isCmp ?_ rfl); refine T3.nL (by kernel_rfl) rfl ?_; refine T3.cstr ?_; intro _; (with_reducible refine T3.sEq ?_; refine T3.truB ?_)
    have e1 : (S [T[i]] == Str.ofString "(") = decide (T[i] = 40) := by
      show (S [T[i]] == S [40]) = _
      rw [S_beq, Bool.eq_iff_iff]; simp
    have e2 : (S [T[i]] == Str.ofString ")") = decide (T[i] = 41) := by
      show (S [T[i]] == S [41]) = _
      rw [S_beq, Bool.eq_iff_iff]; simp
    by_cases h1 : T[i] = 40
    · refine yes (by rw [e1]; simpa using h1) ?_
      refine T3.cint ?_; intro _; refine T3.iAdd ?_; intro _; (with_reducible refine T3.aName ?_); refine T3.st rfl ?_ (by kernel_rfl); (with_reducible refine Nx.nx ?_; refine T3.ss1 ?_); refine T3.sAsg ?_ rfl rfl rfl; (with_reducible refine T3.calln ?_ rfl); refine T3.nB (by assumption) (by kernel_rfl) (by boot_by_name) ?_; (with_reducible refine T3.cwB ?_; refine T3.ar1 ?_); refine T3.nL (by kernel_rfl) rfl ?_; (with_reducible refine T3.ar1 ?_); refine T3.nL (by kernel_rfl) rfl ?_; (with_reducible refine T3.ar0 ?_); refine T3.iMax (Room.no (by assumption)) ?_; intro _; (with_reducible refine T3.aName ?_); refine T3.st rfl ?_ (by kernel_rfl); (with_reducible refine Nx.nx ?_; refine T3.ss0 ?_)
      rw [show step T[i] = 1 by rw [step, if_pos h1]] at hfl
      exact i5x3 _ _ _ _ _ rfl (by repeat (first | exact Has.nil | refine Has.cons rfl ?_)) hfl
    · refine no (by rw [e1]; simpa using h1) ?_
      (with_reducible refine T3.ifexp ?_; refine T3.isCmp ?_ rfl); refine T3.nL (by kernel_rfl) rfl ?_; refine T3.cstr ?_; intro _; (with_reducible refine T3.sEq ?_; refine T3.truB ?_)
      by_cases h2 : T[i] = 41
      · refine yes (by rw [e2]; simpa using h2) ?_
        (with_reducible refine T3.unop ?_); refine T3.cint ?_; intro _; refine T3.iNeg ?_; intro _; refine T3.iAdd ?_; intro _; (with_reducible refine T3.aName ?_); refine T3.st rfl ?_ (by kernel_rfl); (with_reducible refine Nx.nx ?_; refine T3.ss1 ?_); refine T3.sAsg ?_ rfl rfl rfl; (with_reducible refine T3.calln ?_ rfl); refine T3.nB (by assumption) (by kernel_rfl) (by boot_by_name) ?_; (with_reducible refine T3.cwB ?_; refine T3.ar1 ?_); refine T3.nL (by kernel_rfl) rfl ?_; (with_reducible refine T3.ar1 ?_); refine T3.nL (by kernel_rfl) rfl ?_; (with_reducible refine T3.ar0 ?_); refine T3.iMax (Room.no (by assumption)) ?_; intro _; (with_reducible refine T3.aName ?_); refine T3.st rfl ?_ (by kernel_rfl); (with_reducible refine Nx.nx ?_; refine T3.ss0 ?_)
        rw [show step T[i] = -1 by rw [step, if_neg h1, if_pos h2]] at hfl
        exact i5x3 _ _ _ _ _ rfl (by repeat (first | exact Has.nil | refine Has.cons rfl ?_)) hfl
      · refine no (by rw [e2]; simpa using h2) ?_
        refine T3.cint ?_; intro _; refine T3.iAdd ?_; intro _; (with_reducible refine T3.aName ?_); refine T3.st rfl ?_ (by kernel_rfl); (with_reducible refine Nx.nx ?_; refine T3.ss1 ?_); refine T3.sAsg ?_ rfl rfl rfl; (with_reducible refine T3.calln ?_ rfl); refine T3.nB (by assumption) (by kernel_rfl) (by boot_by_name) ?_; (with_reducible refine T3.cwB ?_; refine T3.ar1 ?_); refine T3.nL (by kernel_rfl) rfl ?_; (with_reducible refine T3.ar1 ?_); refine T3.nL (by kernel_rfl) rfl ?_; (with_reducible refine T3.ar0 ?_); refine T3.iMax (Room.no (by assumption)) ?_; intro _; (with_reducible refine T3.aName ?_); refine T3.st rfl ?_ (by kernel_rfl); (with_reducible refine Nx.nx ?_; refine T3.ss0 ?_)
        rw [show step T[i] = 0 by rw [step, if_neg h1, if_neg h2]] at hfl
        exact i5x3 _ _ _ _ _ rfl (by repeat (first | exact Has.nil | refine Has.cons rfl ?_)) hfl
  · rintro P1 _ l1 hqa; refine e5x3 hqa ?_; clear hqa; rintro m d mo k k2 hra hm hfl; subst hra
    refine T3.forget hm ?_
    (with_reducible refine T3.ss0 ?_; refine Nx.nx ?_; refine T3.ss1 ?_; refine T3.sRet ?_); refine T3.nL (by kernel_rfl) rfl ?_; (with_reducible refine Nx.ret ?_)
    rw [List.drop_length] at hfl
    exact Bk.mk ⟨⟨_, congrArg (fun i => Value.int i _) hfl⟩, rfl⟩
end
/-! the plain law of the shown text -/
noncomputable def Part (d : Nat) (s : List Nat) (t : Tr) : Prop := ∃ l ks t1, s = l ++ ks.map LK.sign ∧ Rd [] d .sg l t1 ∧ ks.length ≤ 20 ∧ loops ks t1 = t
theorem Rd.sg0 {d : Nat} {l : List Nat} {t : Tr} (h : Rd [] d .sg l t) : ∃ ch r, l = ch :: r ∧ ch ≠ 123 := by
  cases h with
  | chr h => exact ⟨_, _, rfl, fun e => h.2 (by subst e; decide)⟩
  | quo ha hb => exact ⟨_, _, rfl, by decide⟩
  | dfn h hw => simp at h
  | par hd h1 h2 => exact ⟨_, _, rfl, by decide⟩
theorem Part.head {d : Nat} {s : List Nat} {t : Tr} (h : Part d s t) : ∃ ch r, s = ch :: r ∧ ch ≠ 123 := by
  refine e3x3 (h) ?_; rintro l ks t1 hra h1 _; subst hra
  refine e2x2 (h1.sg0) ?_; rintro ch r hra h2; subst hra
  exact i2x2 ch _ rfl h2
theorem row_of {d : Nat} : ∀ (ps acc : List Tr), (∀ p ∈ ps, Part d (sh p [] 2) p) → Rd [] d (.row acc) ((ps.map fun q => sh q [] 2).flatten) (catAll (acc ++ ps))
  | [], acc, _ => by rw [List.append_nil]; exact .rowN
  | p :: ps, acc, h => by
    have ih := row_of ps (acc ++ [p]) fun q hq => h q (.tail _ hq)
    refine e3x4 (h p (.head _)) ?_; rintro l ks t1 e h1 h2 h3
    rw [List.map_cons, List.flatten_cons, e, List.append_assoc]
    rw [List.append_assoc] at ih
    refine .rowC h1 h2 ?_ (by rw [h3]; exact ih)
    cases ps with
    | nil => simp
    | cons q qs =>
      refine e2x2 ((h q (.tail _ (.head _))).head) ?_; rintro ch r e2 hc
      rw [List.map_cons, List.flatten_cons, e2]
      simpa using hc
theorem gl_nil : ∀ ls : List (List Nat), gl [] ls = ls.flatten := by
  have k : ∀ (r : List (List Nat)) (x : List Nat), r.foldl (fun a p => a ++ [] ++ p) x = x ++ r.flatten := by
    intro r
    induction r with
    | nil => intro x; simp
    | cons y r ih => intro x; rw [List.foldl_cons, ih]; simp
  intro ls
  cases ls with
  | nil => rfl
  | cons x r => exact k r x
theorem gl_bar : ∀ (x : List Nat) (r : List (List Nat)), gl [124] (x :: r) = x ++ (r.map (124 :: ·)).flatten := by
  intro x r
  show r.foldl _ x = _
  induction r generalizing x with
  | nil => simp
  | cons y r ih => rw [List.foldl_cons, ih]; simp
theorem cho_of {d : Nat} : ∀ (qs : List Tr) (acc : Tr), (∀ q ∈ qs, Rd [] d (.row []) (sh q [] 1) q) → Rd [] d (.cho acc) (((qs.map fun q => sh q [] 1).map (124 :: ·)).flatten) (qs.foldl .alt acc)
  | [], acc, _ => .choN
  | q :: qs, acc, h => .choC (h q (.head _)) (cho_of qs (.alt acc q) fun q hq => h q (.tail _ hq))
theorem catAll_spl (t : Tr) : catAll (spl .cat t) = t := by
  refine e2x2 (spl_fold .cat t) ?_; rintro p ps h1 h2
  rw [h1]
  exact h2
theorem alt_spl (t : Tr) : ∃ p ps, spl .alt t = p :: ps ∧ ps.foldl .alt p = t := spl_fold .alt t
/-- rows and choices, the parts given -/
theorem cat_row {d : Nat} {t : Tr} (h : ∀ q ∈ spl .cat t, Part d (sh q [] 2) q) : Rd [] d (.row []) (sh t [] (if isPk .cat t then 0 else 2)) t := by
  have := row_of (spl .cat t) [] h
  rw [List.nil_append, catAll_spl, ← gl_nil] at this
  exact gl_spl .cat t ▸ this
noncomputable def ChoS (d : Nat) (s : List Nat) (t : Tr) : Prop := ∃ q qs, spl .alt t = q :: qs ∧ s = sh q [] 1 ++ ((qs.map fun q => sh q [] 1).map (124 :: ·)).flatten ∧ ∀ q' ∈ q :: qs, Rd [] d (.row []) (sh q' [] 1) q'
theorem alt_cho {d : Nat} {t : Tr} (h : ∀ q ∈ spl .alt t, Rd [] d (.row []) (sh q [] 1) q) : ChoS d (sh t [] (if isPk .alt t then 0 else 1)) t := by
  refine e2x2 (alt_spl t) ?_; rintro q qs h1 h2
  refine i2x3 q qs h1 ?_ (fun q' hq => h q' (by rw [h1]; exact hq))
  have g := gl_spl .alt t
  rw [h1, List.map_cons] at g
  rw [← gl_bar]
  exact g.symm
theorem ChoS.rd {d : Nat} {s : List Nat} {t : Tr} (h : ChoS d s t) : ∃ l1 l2 ta, s = l1 ++ l2 ∧ Rd [] d (.row []) l1 ta ∧ Rd [] d (.cho ta) l2 t := by
  refine e2x3 (h) ?_; rintro q qs h1 h2 h3
  refine i3x3 _ _ q h2 (h3 q (.head _)) ?_
  refine e2x2 (alt_spl t) ?_; rintro q' qs' h4 h5
  rw [h1] at h4
  cases h4
  have := cho_of qs q fun x hx => h3 x (.tail _ hx)
  rwa [h5] at this
theorem loops_snoc (a : List LK) (k : LK) (t : Tr) : loops (a ++ [k]) t = .loop k (loops a t) := by simp [loops, List.foldl_append]
theorem div20 {i : Nat} (h : i % 20 = 0) (h0 : 0 < i) : (i - 1) / 20 + 1 = i / 20 := by
  obtain ⟨j, rfl⟩ : ∃ j, i = j + 1 := ⟨i - 1, (Nat.succ_pred_eq_of_pos h0).symm⟩
  rw [Nat.succ_div, if_pos (Nat.dvd_of_mod_eq_zero h)]; rfl
theorem div20n {i : Nat} (h : ¬ (0 < i ∧ i % 20 = 0)) : (i - 1) / 20 = i / 20 := by
  cases i with
  | zero => rfl
  | succ j => rw [Nat.succ_div, if_neg fun d => h ⟨Nat.succ_pos j, Nat.mod_eq_zero_of_dvd d⟩]; rfl
theorem mod20n {i : Nat} (h : ¬ (0 < i ∧ i % 20 = 0)) : i % 20 = if i = 0 then 0 else (i - 1) % 20 + 1 := by
  cases i with
  | zero => rfl
  | succ j =>
    rw [if_neg (Nat.succ_ne_zero j)]
    have a := Nat.div_add_mod j 20
    have b := Nat.div_add_mod (j + 1) 20
    rw [← div20n h] at b
    exact Nat.add_left_cancel (b.trans (congrArg (· + 1) a.symm))
theorem len20 (n : Nat) : (if n = 0 then 0 else (n - 1) % 20 + 1) ≤ 20 := by
  by_cases h : n = 0
  · rw [if_pos h]; exact Nat.zero_le _
  · rw [if_neg h]; exact Nat.succ_le_of_lt (Nat.mod_lt _ (by decide))
theorem loops_part {m : Nat} {s : List Nat} {core : Tr} (hc : ∀ d, d + m ≤ 20 → Rd [] d .sg s core) : ∀ (n : Nat) (a : List LK), a.length = n → ∀ d, d + m + (n - 1) / 20 ≤ 20 →
    ∃ l ks t1, addL s 0 a = l ++ ks.map LK.sign ∧ Rd [] d .sg l t1 ∧ loops ks t1 = loops a core ∧ ks.length = if n = 0 then 0 else (n - 1) % 20 + 1 := by
  intro n
  induction n with
  | zero =>
    intro a ha d hd
    obtain rfl := List.length_eq_zero_iff.mp ha
    exact i3x4 s [] core (by simp [addL]) (hc d (Nat.le_trans (Nat.le_add_right ..) hd)) rfl rfl
  | succ i ih =>
    intro a ha d hd
    obtain ⟨a', k, rfl⟩ : ∃ a' k, a = a' ++ [k] := by
      rcases List.eq_nil_or_concat a with rfl | ⟨u, w, rfl⟩
      · simp at ha
      · exact i2x1 u w (by simp)
    have ha' : a'.length = i := by simpa using ha
    rw [addL_snoc, Nat.zero_add, ha', loops_snoc]
    by_cases hb : 0 < i ∧ i % 20 = 0
    · have hd' : d + m + ((i - 1) / 20 + 1) ≤ 20 := by rw [div20 hb.2 hb.1]; exact hd
      obtain ⟨l, ks, t1, e1, e2, e3, e4⟩ := ih a' ha' (d + 1) (by rw [Nat.add_right_comm d 1 m, Nat.add_assoc, Nat.add_comm 1]; exact hd')
      have hk : ks.length ≤ 20 := by rw [e4]; exact len20 i
      refine i3x4 (40 :: ((l ++ (ks.map LK.sign ++ [])) ++ ([] ++ [41]))) [k] (loops a' core) ?_ ?_ rfl (by rw [if_neg (Nat.succ_ne_zero i), Nat.add_sub_cancel, hb.2]; rfl)
      · rw [brk, if_pos hb, e1]; simp
      · have r1 : Rd [] (d + 1) (.row []) (l ++ (ks.map LK.sign ++ [])) (catAll ([] ++ [loops ks t1])) := .rowC e2 hk (by simp) .rowN
        have r2 : catAll ([] ++ [loops ks t1]) = loops a' core := e3
        rw [r2] at r1
        exact .par (Nat.lt_of_lt_of_le (Nat.lt_of_le_of_lt (Nat.le_trans (Nat.le_add_right d m) (Nat.le_add_right _ ((i - 1) / 20))) (Nat.lt_succ_self _)) hd') r1 .choN
    · obtain ⟨l, ks, t1, e1, e2, e3, e4⟩ := ih a' ha' d (by rw [div20n hb]; exact hd)
      refine i3x4 l (ks ++ [k]) t1 ?_ e2 ?_ ?_
      · rw [brk, if_neg hb, e1]; simp
      · rw [loops_snoc, e3]
      · rw [List.length_append, e4, if_neg (Nat.succ_ne_zero i), ← mod20n hb]; rfl
theorem unloop : ∀ t : Tr, ∃ a core, (∀ k b, core ≠ .loop k b) ∧ t = loops a core ∧ core.sz ≤ t.sz ∧ (a = [] → t = core) ∧ (a ≠ [] → core.sz < t.sz ∧ ∀ acc n p, sh t acc p = addL (sh core [] 2) 0 (a ++ acc) ∧ need2 t n p = need core 2 + (n + a.length - 1) / 20)
  | .loop k b => by
    refine e2x5 (unloop b) ?_; rintro a core h1 h2 hs h3 h4
    refine i2x5 (a ++ [k]) core h1 (by rw [loops_snoc, ← h2]) (by simp only [Tr.sz]; omega) (fun e => by simp at e) (fun _ => ⟨by simp only [Tr.sz]; omega, fun acc n p => ?_⟩)
    by_cases ha : a = []
    · subst ha
      have e := h3 rfl
      subst e
      refine ⟨sh_acc _ _ _ h1, ?_⟩
      show need2 b (n + 1) 2 = _
      rw [need_loops b (n + 1) 2 h1]; rfl
    · obtain ⟨_, h5⟩ := h4 ha
      obtain ⟨h6, _⟩ := h5 (k :: acc) 0 2
      obtain ⟨_, h7⟩ := h5 [] (n + 1) 2
      refine ⟨?_, ?_⟩
      · show sh b (k :: acc) 2 = _
        rw [h6]; simp
      · show need2 b (n + 1) 2 = _
        rw [h7, List.length_append, List.length_singleton]
        congr 2; rw [Nat.add_right_comm]; rfl
  | .chr c => ⟨[], .chr c, fun _ _ e => by (cases e), rfl, Nat.le_refl _, fun _ => rfl, fun h => absurd rfl h⟩
  | .emp => ⟨[], .emp, fun _ _ e => by (cases e), rfl, Nat.le_refl _, fun _ => rfl, fun h => absurd rfl h⟩
  | .cat l r => ⟨[], .cat l r, fun _ _ e => by (cases e), rfl, Nat.le_refl _, fun _ => rfl, fun h => absurd rfl h⟩
  | .alt l r => ⟨[], .alt l r, fun _ _ e => by (cases e), rfl, Nat.le_refl _, fun _ => rfl, fun h => absurd rfl h⟩
theorem Abc.core : ∀ {a : List LK} {t : Tr}, Abc (loops a t) → Abc t := by
  intro a
  induction a with
  | nil => exact fun h => h
  | cons k a ih => intro t h; exact ih (t := .loop k t) h
theorem abc.plain {ch : Nat} (h : abc ch) : plainC ch := by rcases h with rfl | rfl | rfl <;> exact ⟨by decide, by decide⟩
theorem need_le (t : Tr) (p : Nat) (h : ∀ l r, t ≠ .alt l r) (h2 : ∀ l r, t ≠ .cat l r) (q : Nat) : need t p = need t q := by
  cases t with
  | alt l r => exact absurd rfl (h l r)
  | cat l r => exact absurd rfl (h2 l r)
  | _ => rfl
theorem sh_same (t : Tr) (p : Nat) (h : ∀ l r, t ≠ .alt l r) (h2 : ∀ l r, t ≠ .cat l r) (q : Nat) : sh t [] p = sh t [] q := by
  cases t with
  | alt l r => exact absurd rfl (h l r)
  | cat l r => exact absurd rfl (h2 l r)
  | _ => rfl
theorem shown : ∀ (n : Nat) (t : Tr), t.sz ≤ n → Abc t →
    (∀ d, d + need t 2 ≤ 20 → Part d (sh t [] 2) t ∧ ((∀ k b, t ≠ .loop k b) → Rd [] d .sg (sh t [] 2) t)) ∧ (∀ d, d + need t 1 ≤ 20 → Rd [] d (.row []) (sh t [] 1) t) ∧ (∀ d, d + need t 0 ≤ 20 → ∀ q ∈ spl .alt t, Rd [] d (.row []) (sh q [] 1) q) := by
  intro n
  induction n with
  | zero => intro t h; exact absurd h (by have := t.sz_pos; omega)
  | succ n ih =>
    intro t hn hab
    have catR : ∀ l r, t = .cat l r → ∀ d, d + need t 0 ≤ 20 → Rd [] d (.row []) (sh t [] 0) t := by
      rintro l r rfl d hd
      refine cat_row (t := .cat l r) fun q hq => ?_
      have hs : q.ht < (Tr.cat l r).ht ∧ q.sz < (Tr.cat l r).sz := mkp_sub .cat l r q hq
      have hm : need q 2 ≤ need (.cat l r) 0 := (spl_max .cat (.cat l r)).1 q hq
      exact ((ih q (by omega) (Abc.spl .cat hab q hq)).1 d (by omega)).1
    have altR : ∀ l r, t = .alt l r → ∀ d, d + need t 0 ≤ 20 → ∀ q ∈ spl .alt t, Rd [] d (.row []) (sh q [] 1) q := by
      rintro l r rfl d hd q hq
      have hs : q.ht < (Tr.alt l r).ht ∧ q.sz < (Tr.alt l r).sz := mkp_sub .alt l r q hq
      have hm : need q 1 ≤ need (.alt l r) 0 := (spl_max .alt (.alt l r)).1 q hq
      exact (ih q (by omega) (Abc.spl .alt hab q hq)).2.1 d (by omega)
    have sg : (∀ k b, t ≠ .loop k b) → ∀ d, d + need t 2 ≤ 20 → Rd [] d .sg (sh t [] 2) t := by
      intro hnl d hd
      cases t with
      | chr ch => exact .chr (abc.plain hab)
      | emp =>
        have : need .emp 2 = 1 := rfl
        exact .par (l1 := []) (l2 := []) (by omega) .rowN .choN
      | cat l r =>
        have e := need_cat l r 2
        simp only [Nat.le_refl, if_true] at e
        have h := catR l r rfl (d + 1) (by omega)
        rw [sh_cat_p, brk, if_pos (by decide)]
        exact .par (l2 := []) (by omega) h .choN
      | alt l r =>
        have e := need_alt l r 2
        simp only [show 1 ≤ 2 by decide, if_true] at e
        refine e3x3 ((alt_cho (altR l r rfl (d + 1) (by omega))).rd) ?_; rintro l1 l2 ta h1 h2 h3
        rw [sh_alt_p, brk, if_pos (by decide)]
        have h1' : sh (.alt l r) [] 0 = l1 ++ l2 := h1
        rw [h1', List.append_assoc]
        exact .par (by omega) h2 h3
      | loop k b => exact absurd rfl (hnl k b)
    have part : ∀ d, d + need t 2 ≤ 20 → Part d (sh t [] 2) t := by
      intro d hd
      by_cases hl : ∃ k b, t = .loop k b
      · refine e2x5 (unloop t) ?_; rintro a core h1 h2 h3 h4 h5
        have ha : a ≠ [] := fun e => by
          refine e2x1 (hl) ?_; rintro k b e2
          exact h1 k b ((h4 e).symm.trans e2)
        obtain ⟨h6, h7⟩ := h5 ha
        obtain ⟨h8, h9⟩ := h7 [] 0 2
        have hc : Abc core := Abc.core (a := a) (h2 ▸ hab)
        have hcs : ∀ d, d + need core 2 ≤ 20 → Rd [] d .sg (sh core [] 2) core := fun d hd => ((ih core (by omega) hc).1 d hd).2 h1
        have h9' : need t 2 = need core 2 + (0 + a.length - 1) / 20 := h9
        obtain ⟨l, ks, t1, e1, e2, e3, e4⟩ := loops_part hcs a.length a rfl d (by rw [h9', Nat.zero_add, ← Nat.add_assoc] at hd; exact hd)
        refine i3x4 l ks t1 ?_ e2 (by rw [e4]; exact len20 _) (e3.trans h2.symm)
        rw [h8, List.append_nil]; exact e1
      · exact i3x4 (sh t [] 2) [] t (by simp) (sg (fun k b e => hl ⟨k, b, e⟩) d hd) (by simp) rfl
    have one : ∀ d, d + need t 1 ≤ 20 → Rd [] d (.row []) (sh t [] 1) t := by
      intro d hd
      by_cases hcat : ∃ l r, t = .cat l r
      · refine e2x1 (hcat) ?_; rintro l r hra; subst hra
        have e := need_cat l r 1
        simp only [show ¬ 2 ≤ 1 by decide, if_false] at e
        rw [sh_cat_p, brk, if_neg (by decide)]
        exact catR l r rfl d (by omega)
      · have e1 : need t 1 = need t 2 := by
          cases t with
          | cat l r => exact absurd ⟨l, r, rfl⟩ hcat
          | alt l r => rw [need_alt l r 1, need_alt l r 2]; rfl
          | _ => rfl
        have e2 : sh t [] 1 = sh t [] 2 := by
          cases t with
          | cat l r => exact absurd ⟨l, r, rfl⟩ hcat
          | alt l r => rw [sh_alt_p l r 1, sh_alt_p l r 2]; rfl
          | _ => rfl
        rw [e2]
        have := row_of (d := d) [t] [] (fun p hp => by
          obtain rfl : p = t := by simpa using hp
          exact part d (by omega))
        simpa [catAll] using this
    refine i0x3 (fun d hd => ⟨part d hd, fun h => sg h d hd⟩) one (fun d hd q hq => ?_)
    by_cases halt : ∃ l r, t = .alt l r
    · refine e2x1 (halt) ?_; rintro l r hra; subst hra
      exact altR l r rfl d hd q hq
    · have e1 : spl .alt t = [t] := by
        cases t with
        | alt l r => exact absurd ⟨l, r, rfl⟩ halt
        | _ => rfl
      have e2 : need t 1 = need t 0 := by
        cases t with
        | alt l r => exact absurd ⟨l, r, rfl⟩ halt
        | cat l r => rw [need_cat l r 1]; rfl
        | _ => rfl
      rw [e1] at hq
      obtain rfl : q = t := by simpa using hq
      exact one d (by omega)
theorem sh_01 (t : Tr) : sh t [] (if isPk .alt t then 0 else 1) = sh t [] 0 := by
  cases t with
  | alt l r => rfl
  | cat l r => show sh (.cat l r) [] 1 = _; rw [sh_cat_p l r 1]; rfl
  | _ => rfl
theorem shown_cho {t : Tr} (hab : Abc t) (hn : need t 0 ≤ 20) : ChoS 0 (sh t [] 0) t := by
  have := alt_cho (d := 0) (t := t) ((shown t.sz t (Nat.le_refl _) hab).2.2 0 (by omega))
  rwa [sh_01] at this
/-- runs of loops -/
noncomputable def Fl (s : List Nat) (e : Nat) : Prop := ∀ r rest, flatF r (s ++ rest) = flatF e rest
theorem Fl.chr {ch : Nat} (h : ch ∉ [42, 43, 63]) : Fl [ch] 0 := fun r rest => by
  show flatF r (ch :: rest) = _
  rw [flatF, if_neg h, if_neg (by decide)]
theorem Fl.app {s u : List Nat} {e f : Nat} (h : Fl s e) (g : Fl u f) : Fl (s ++ u) f := fun r rest => by rw [List.append_assoc, h, g]
theorem Fl.sign {s : List Nat} {e : Nat} (h : Fl s e) (he : e < 20) (k : LK) : Fl (s ++ [k.sign]) (e + 1) := fun r rest => by
  rw [List.append_assoc, h]
  show flatF e (k.sign :: rest) = _
  have hk : k.sign ∈ [42, 43, 63] := by cases k <;> decide
  rw [flatF, if_pos hk, if_neg (by omega)]
theorem Fl.brk {s : List Nat} {e : Nat} (h : Fl s e) : Fl (40 :: (s ++ [41])) 0 := (Fl.chr (ch := 40) (by decide)).app (h.app (Fl.chr (ch := 41) (by decide)))
theorem Fl.addL {s : List Nat} (h : Fl s 0) : ∀ (n : Nat) (a : List LK), a.length = n → Fl (addL s 0 a) (if n = 0 then 0 else (n - 1) % 20 + 1) := by
  intro n
  induction n with
  | zero =>
    intro a ha
    obtain rfl := List.length_eq_zero_iff.mp ha
    exact h
  | succ i ih =>
    intro a ha
    obtain ⟨a', k, rfl⟩ : ∃ a' k, a = a' ++ [k] := by
      rcases List.eq_nil_or_concat a with rfl | ⟨u, w, rfl⟩
      · simp at ha
      · exact i2x1 u w (by simp)
    have ha' : a'.length = i := by simpa using ha
    rw [addL_snoc, Nat.zero_add, ha', if_neg (show ¬ i + 1 = 0 by omega)]
    have g := ih a' ha'
    by_cases hb : 0 < i ∧ i % 20 = 0
    · rw [Mine.brk, if_pos hb]
      have := (g.brk).sign (by decide) k
      rwa [Nat.add_sub_cancel, hb.2]
    · rw [Mine.brk, if_neg hb]
      have := g.sign (by rw [← mod20n hb]; exact Nat.mod_lt _ (by decide)) k
      rwa [Nat.add_sub_cancel, mod20n hb]
theorem sh_fl : ∀ (t : Tr) (acc : List LK) (p : Nat), Abc t → (acc = [] ∨ 2 ≤ p) → ∃ e, e ≤ 20 ∧ Fl (sh t acc p) e := by
  have fin : ∀ (s : List Nat) (acc : List LK), Fl s 0 → ∃ e, e ≤ 20 ∧ Fl (addL s 0 acc) e := fun s acc h => ⟨_, by split <;> omega, h.addL acc.length acc rfl⟩
  have fin2 : ∀ (s : List Nat) (acc : List LK) (b : Prop) [Decidable b] (e : Nat), e ≤ 20 → Fl s e → (acc = [] ∨ b) → ∃ e, e ≤ 20 ∧ Fl (addL (brk b s) 0 acc) e := by
    intro s acc b _ e he h hb
    by_cases q : b
    · rw [brk, if_pos q]; exact fin _ acc h.brk
    · obtain rfl := hb.resolve_right q
      rw [brk, if_neg q]; exact ⟨e, he, h⟩
  intro t
  induction t with
  | chr ch => intro acc p h _; exact fin _ acc (Fl.chr (by rcases h with rfl | rfl | rfl <;> decide))
  | emp => intro acc p _ _; exact fin _ acc ((Fl.chr (ch := 40) (by decide)).app (Fl.chr (ch := 41) (by decide)))
  | cat l r ihl ihr =>
    intro acc p h hp
    refine e1x2 (ihl [] (if isPk .cat l then 0 else 2) h.1 (.inl rfl)) ?_; rintro e1 g1 f1
    refine e1x2 (ihr [] 2 h.2 (.inl rfl)) ?_; rintro e2 g2 f2
    exact fin2 _ acc _ e2 g2 (f1.app f2) hp
  | alt l r ihl ihr =>
    intro acc p h hp
    refine e1x2 (ihl [] (if isPk .alt l then 0 else 1) h.1 (.inl rfl)) ?_; rintro e1 g1 f1
    refine e1x2 (ihr [] 1 h.2 (.inl rfl)) ?_; rintro e2 g2 f2
    exact fin2 _ acc _ e2 g2 (f1.app ((Fl.chr (ch := 124) (by decide)).app f2)) (hp.imp_right fun h => by omega)
  | loop k b ih => intro acc p h hp; exact ih (k :: acc) 2 h (.inr (Nat.le_refl _))
theorem sh_flat {t : Tr} (h : Abc t) : flatF 0 (sh t [] 0) = true := by
  refine e1x2 (sh_fl t [] 0 h (.inl rfl)) ?_; rintro e _ f
  have := f 0 []
  rw [List.append_nil] at this
  rw [this]; rfl
/-- the depth of the brackets -/
noncomputable def Bal (s : List Nat) (n : Nat) : Prop := ∀ (d m : Int) (rest : List Nat), d ≤ m → depM d m (s ++ rest) = depM d (max m (d + n)) rest
theorem Bal.chr {ch : Nat} (h : ch ≠ 40 ∧ ch ≠ 41) : Bal [ch] 0 := fun d m rest hd => by
  show depM (d + step ch) (if d + step ch > m then d + step ch else m) rest = _
  rw [show step ch = 0 by rw [step, if_neg h.1, if_neg h.2], if_neg (by omega)]
  congr 1 <;> omega
theorem Bal.app {s u : List Nat} {n k : Nat} (h : Bal s n) (g : Bal u k) : Bal (s ++ u) (max n k) := fun d m rest hd => by
  rw [List.append_assoc, h d m _ hd, g d _ _ (Int.le_trans hd (Int.le_max_left ..))]
  congr 1
  rcases Nat.le_total n k with h | h
  · rw [Nat.max_eq_right h, Int.max_assoc, Int.max_eq_right (Int.add_le_add_left (Int.ofNat_le.mpr h) d)]
  · rw [Nat.max_eq_left h, Int.max_assoc, Int.max_eq_left (Int.add_le_add_left (Int.ofNat_le.mpr h) d)]
theorem Bal.brk {s : List Nat} {n : Nat} (h : Bal s n) : Bal (40 :: (s ++ [41])) (n + 1) := fun d m rest hd => by
  show depM (d + 1) (if d + 1 > m then d + 1 else m) ((s ++ [41]) ++ rest) = _
  have k : (if d + 1 > m then d + 1 else m) = max m (d + 1) := by
    by_cases q : d + 1 > m
    · rw [if_pos q, Int.max_eq_right (Int.le_of_lt q)]
    · rw [if_neg q, Int.max_eq_left (Int.not_lt.mp q)]
  rw [k, List.append_assoc, h _ _ _ (Int.le_max_right ..)]
  show depM (d + 1 + -1) (if d + 1 + -1 > _ then _ else _) rest = _
  rw [Int.add_neg_cancel_right, if_neg (Int.not_lt.mpr (Int.le_trans hd (Int.le_trans (Int.le_max_left m (d + 1)) (Int.le_max_left ..))))]
  congr 1
  have e : d + 1 ≤ d + 1 + (n : Int) := Int.le_add_of_nonneg_right (Int.natCast_nonneg n)
  rw [Int.max_assoc, Int.max_eq_right e, Int.natCast_add, Int.add_assoc, Int.add_comm 1 (n : Int)]
  rfl
theorem Bal.addL {s : List Nat} {c : Nat} (h : Bal s c) : ∀ (n : Nat) (a : List LK), a.length = n → Bal (addL s 0 a) (c + (n - 1) / 20) := by
  intro n
  induction n with
  | zero =>
    intro a ha
    obtain rfl := List.length_eq_zero_iff.mp ha
    exact h
  | succ i ih =>
    intro a ha
    obtain ⟨a', k, rfl⟩ : ∃ a' k, a = a' ++ [k] := by
      rcases List.eq_nil_or_concat a with rfl | ⟨u, w, rfl⟩
      · simp at ha
      · exact i2x1 u w (by simp)
    have ha' : a'.length = i := by simpa using ha
    rw [addL_snoc, Nat.zero_add, ha']
    have g := ih a' ha'
    have hk : Bal [k.sign] 0 := Bal.chr (by cases k <;> decide)
    by_cases hb : 0 < i ∧ i % 20 = 0
    · rw [Mine.brk, if_pos hb]
      have := g.brk.app hk
      rwa [Nat.max_eq_left (Nat.zero_le _), Nat.add_assoc, div20 hb.2 hb.1] at this
    · rw [Mine.brk, if_neg hb]
      have := g.app hk
      rwa [Nat.max_eq_left (Nat.zero_le _), div20n hb] at this
theorem sh_bal : ∀ (t : Tr) (acc : List LK) (p : Nat), Abc t → (acc = [] ∨ 2 ≤ p) → Bal (sh t acc p) (need2 t acc.length p) := by
  intro t
  induction t with
  | chr ch =>
    intro acc p h _
    have := (Bal.chr (ch := ch) (by rcases h with rfl | rfl | rfl <;> decide)).addL acc.length acc rfl
    rwa [Nat.zero_add] at this
  | emp =>
    intro acc p _ _
    have h0 : Bal [] 0 := fun d m rest hd => by
      show depM d m rest = _
      congr 1; omega
    exact h0.brk.addL acc.length acc rfl
  | cat l r ihl ihr =>
    intro acc p h hp
    have g := (ihl [] (if isPk .cat l then 0 else 2) h.1 (.inl rfl)).app (ihr [] 2 h.2 (.inl rfl))
    simp only [sh, need2, List.length_nil] at *
    by_cases q : 2 ≤ p
    · rw [brk, if_pos q, if_pos q]; exact g.brk.addL acc.length acc rfl
    · obtain rfl := hp.resolve_right q
      rw [brk, if_neg q, if_neg q]; exact g
  | alt l r ihl ihr =>
    intro acc p h hp
    have g := (ihl [] (if isPk .alt l then 0 else 1) h.1 (.inl rfl)).app ((Bal.chr (ch := 124) (by decide)).app (ihr [] 1 h.2 (.inl rfl)))
    rw [Nat.zero_max] at g
    simp only [sh, need2, List.length_nil] at *
    by_cases q : 1 ≤ p
    · rw [brk, if_pos q, if_pos q]; exact g.brk.addL acc.length acc rfl
    · obtain rfl := hp.resolve_right (by omega)
      rw [brk, if_neg q, if_neg q]; exact g
  | loop k b ih => intro acc p h hp; exact ih (k :: acc) 2 h (.inr (Nat.le_refl _))
theorem sh_depth {t : Tr} (h : Abc t) : depM 0 0 (sh t [] 0) = need t 0 := by
  have := sh_bal t [] 0 h (.inl rfl) 0 0 [] (by omega)
  rw [List.append_nil] at this
  rw [this]
  show max (0 : Int) (0 + (need2 t 0 0 : Nat)) = (need t 0 : Nat)
  show max (0 : Int) (0 + (need2 t 0 0 : Nat)) = (need2 t 0 0 : Nat)
  omega
/-- signs -/
noncomputable def Asc (s : List Nat) : Prop := ∀ ch ∈ s, ch ∈ [40, 41, 42, 43, 63, 97, 98, 99, 124]
theorem Asc.app {s u : List Nat} (h : Asc s) (g : Asc u) : Asc (s ++ u) := fun ch hc => (List.mem_append.mp hc).elim (h ch) (g ch)
theorem Asc.one {ch : Nat} (h : ch ∈ [40, 41, 42, 43, 63, 97, 98, 99, 124]) : Asc [ch] := fun c hc => by obtain rfl : c = ch := by simpa using hc
                                                                                                         exact h
theorem Asc.brk {s : List Nat} (h : Asc s) (b : Prop) [Decidable b] : Asc (brk b s) := by
  unfold Mine.brk
  split
  · exact (Asc.one (ch := 40) (by decide)).app (h.app (Asc.one (ch := 41) (by decide)))
  · exact h
theorem Asc.addL {s : List Nat} : ∀ (a : List LK) (i : Nat) (s : List Nat), Asc s → Asc (addL s i a)
  | [], _, _, h => h
  | k :: a, i, s, h => Asc.addL (s := s) a (i + 1) _ ((h.brk _).app (Asc.one (by cases k <;> decide)))
theorem sh_asc : ∀ (t : Tr) (acc : List LK) (p : Nat), Abc t → Asc (sh t acc p) := by
  intro t
  induction t with
  | chr ch => intro acc p h; exact Asc.addL (s := []) acc 0 _ (Asc.one (by rcases h with rfl | rfl | rfl <;> decide))
  | emp => intro acc p _; exact Asc.addL (s := []) acc 0 _ ((Asc.one (ch := 40) (by decide)).app (Asc.one (ch := 41) (by decide)))
  | cat l r ihl ihr => intro acc p h; exact Asc.addL (s := []) acc 0 _ (Asc.brk ((ihl _ _ h.1).app (ihr _ _ h.2)) _)
  | alt l r ihl ihr => intro acc p h; exact Asc.addL (s := []) acc 0 _ (Asc.brk ((ihl _ _ h.1).app ((Asc.one (ch := 124) (by decide)).app (ihr _ _ h.2))) _)
  | loop k b ih => intro acc p h; exact ih (k :: acc) 2 h
noncomputable def forB : Stmt → List Stmt | .For _ _ b _ _ => b | _ => []
noncomputable def nthS (l : List Stmt) (i : Nat) : Stmt := match l.drop i with | s :: _ => s | [] => .Pass default
noncomputable def turnB : List Stmt := forB (nthS (fdB (topS 74)) 1)
noncomputable def kOf : Nat → LK | 0 => .star | 1 => .plus | _ => .opt
section
variable {c : Cx} {A : Around} {P : Vw} {σ vs : St} {d kd x L : Addr} {fs : Fs} {T : List Nat} {t : Tr} {n : Nat} {cdv : Value} {m0 : Lo} {kt km : Tok} {vT : Value}
noncomputable abbrev eL (L : Addr) (cdv : Value) : Env := mkE (fdS (topS 74)) (Str.ofString "_law_looped") L 1026 cdv
theorem laps_ (kf : KF c) (hr : Room A 14) (hm0 : Has m0 [(Str.ofString "many", .int n km), (Str.ofString "turn", vT), (Str.ofString "known", .ref kd), (Str.ofString "text", .str (S T) kt), (Str.ofString "tree", .ref x), (Str.ofString "vial", .ref d)]) (hn : n ≤ 20) (hT : T.length ≤ 100) (ht : TreeV P (.ref x) t) (hv : Vial c d vs) :
    T3 c A (exec (nthS turnB 1) (eL L cdv)) P ((L, NsP m0) :: (kd, IsD c fs) :: vs) (fun f P' σ' => f = .next ∧ ∃ m, ∃ ks : List LK, ∃ y k vs', σ' = (L, NsP m) :: (kd, IsD c fs) :: vs' ∧ Has m [(Str.ofString "turn", vT), (Str.ofString "known", .ref kd), (Str.ofString "text", .str (S (T ++ ks.map LK.sign)) k), (Str.ofString "tree", .ref y), (Str.ofString "vial", .ref d)] ∧ TreeV P' (.ref y) (loops ks t) ∧ ks.length = n ∧ Vial c d vs') NoE := by
  refine T3.forget hm0 ?_
  refine T3.sFor ?_ ?hs
  case hs => intro _; rfl
  (with_reducible refine T3.calln ?_ rfl); refine T3.nB (by assumption) (by kernel_rfl) (by boot_by_name) ?_; (with_reducible refine T3.cwT ?_; refine T3.ar1 ?_); refine T3.nL (by kernel_rfl) rfl ?_; (with_reducible refine T3.ar0 ?_)
  refine T3.newRa fun ra P1 l1 hra => ?_
  let I1 : Nat → Vw → St → Prop := fun i P' σ' => ∃ m, ∃ ks : List LK, ∃ y k vs', σ' = (L, NsP m) :: (kd, IsD c fs) :: vs' ∧ Has m [(Str.ofString "turn", vT), (Str.ofString "known", .ref kd), (Str.ofString "text", .str (S (T ++ ks.map LK.sign)) k), (Str.ofString "tree", .ref y), (Str.ofString "vial", .ref d)] ∧ TreeV P' (.ref y) (loops ks t) ∧ ks.length = i ∧ Vial c d vs'
  refine T3.itRa (n := n) hra (by omega) hr.no I1
    ⟨_, [], x, _, vs, rfl, by simp only [List.map_nil, List.append_nil]; repeat (first | exact Has.nil | refine Has.cons rfl ?_), ht.le l1, rfl, hv⟩ ⟨?_, ?_⟩
  · rintro i v P2 _ l2 hi ⟨tk, rfl⟩ hqa; refine e5x5 hqa ?_; clear hqa; rintro m ks y k vs2 hra hm hty hks hv2; subst hra
    refine T3.forget hm ?_
    -- the way is chosen
    have body : ∀ (w : Nat) (kw : Tok), w < 3 → ∀ (P3 : Vw) (vs3 : St) (m3 : Lo), Le P2 P3 → Vial c d vs3 → Has m3 [(Str.ofString "way", .int w kw), (Str.ofString "turn", vT), (Str.ofString "known", .ref kd), (Str.ofString "text", .str (S (T ++ ks.map LK.sign)) k), (Str.ofString "tree", .ref y), (Str.ofString "vial", .ref d)] →
        T3 c A (execs ((forB (nthS turnB 1)).drop 1) (eL L cdv)) P3 ((L, NsP m3) :: (kd, IsD c fs) :: vs3) (fun f P4 σ4 => f = .next ∧ ∃ m, ∃ ks : List LK, ∃ y k vs', σ4 = (L, NsP m) :: (kd, IsD c fs) :: vs' ∧ Has m [(Str.ofString "turn", vT), (Str.ofString "known", .ref kd), (Str.ofString "text", .str (S (T ++ ks.map LK.sign)) k), (Str.ofString "tree", .ref y), (Str.ofString "vial", .ref d)] ∧ TreeV P4 (.ref y) (loops ks t) ∧ ks.length = i + 1 ∧ Vial c d vs') NoE := by
      intro w kw hw P3 vs3 m3 l3 hv3 hm3
      refine T3.forget hm3 ?_
      refine T3.ss1 (T3.sSw2 hr.no ?_ rfl rfl rfl)
      (with_reducible refine T3.binop ?_); refine T3.nL (by kernel_rfl) rfl ?_; refine T3.subG ?_ (fun _ _ => rfl); refine T3.cstr ?_; intro _; refine T3.nL (by kernel_rfl) rfl ?_; (with_reducible refine T3.gStr ?_)
      have hch : [42, 43, 63][w]? = some (kOf w).sign := by
        rcases w with _ | _ | _ | w
        · rfl
        · rfl
        · rfl
        · omega
      refine T3.sItemS (ws := [42, 43, 63]) (k := w) rfl hch (by simp) fun _ => ?_
      refine T3.sAdd (by rw [sizeLine_eq, S_len, S_len]; simp; omega) fun kn => ?_
      rw [S_add, List.append_assoc, show ks.map LK.sign ++ [(kOf w).sign] = (ks ++ [kOf w]).map LK.sign by simp]
      (with_reducible refine T3.tup ?_ rfl; refine T3.ar1 ?_); refine T3.subG ?_ (fun _ _ => rfl); (with_reducible refine T3.tup ?_ rfl; refine T3.ar1 ?_); refine T3.cstr ?_; intro _; (with_reducible refine T3.ar1 ?_); refine T3.cstr ?_; intro _; (with_reducible refine T3.ar1 ?_); refine T3.cstr ?_; intro _; (with_reducible refine T3.ar0 ?_); refine T3.newTu (lit rfl) ?_; intro _ _ _ _; refine T3.nL (by kernel_rfl) rfl ?_; refine T3.gTu (by with_reducible assumption) ?_
      rename_i tt P4 l4 htt
      obtain ⟨k1, k2, k3, htt⟩ : ∃ k1 k2 k3, TuP P4 tt [.str (Str.ofString "star") k1, .str (Str.ofString "plus") k2, .str (Str.ofString "opt") k3] := ⟨_, _, _, htt⟩
      obtain ⟨kk, hnm⟩ : ∃ kk, [Value.str (Str.ofString "star") k1, .str (Str.ofString "plus") k2, .str (Str.ofString "opt") k3][w]? = some (Value.str (kOf w).nm kk) := by
        rcases w with _ | _ | _ | w
        · exact ⟨_, rfl⟩
        · exact ⟨_, rfl⟩
        · exact ⟨_, rfl⟩
        · omega
      refine T3.tItem (k := w) htt rfl hnm (by rw [sizeLine_eq]; simp) ?_
      (with_reducible refine T3.ar1 ?_); refine T3.nL (by kernel_rfl) rfl ?_; (with_reducible refine T3.ar0 ?_); refine T3.newTu (lit rfl) ?_; intro _ _ _ _
      rename_i ta P5 l5 hta
      intro P6 l6
      refine T3.st rfl ?_ (by kernel_rfl); refine T3.st rfl ?_ (by kernel_rfl); (with_reducible refine Nx.nx ?_; refine T3.ss0 ?_)
      refine ⟨rfl, i5x5 _ (ks ++ [kOf w]) ta kn vs3 rfl (by repeat (first | exact Has.nil | refine Has.cons rfl ?_)) ?_ (by simp [hks]) hv3⟩
      rw [loops_snoc]
      exact i3x3 ta _ y rfl (hta.le l6) ((((hty.le l3).le l4).le l5).le l6)
    refine T3.aName (T3.st rfl ?_ ?hp)
    case hp => kernel_rfl
    refine T3.ss1 (T3.conseq (Q := fun f P3 σ3 => f = .next ∧ ∃ w kw vs3 m3, w < 3 ∧ σ3 = (L, NsP m3) :: (kd, IsD c fs) :: vs3 ∧ Le P2 P3 ∧ Vial c d vs3 ∧ Has m3 [(Str.ofString "way", .int (w : Nat) kw), (Str.ofString "turn", vT), (Str.ofString "known", .ref kd), (Str.ofString "text", .str (S (T ++ ks.map LK.sign)) k), (Str.ofString "tree", .ref y), (Str.ofString "vial", .ref d)]) ?_ ?_)
    · refine T3.sAsg ?_ rfl rfl rfl; (with_reducible refine T3.ifexp ?_; refine T3.isCmp ?_ rfl); refine T3.nL (by kernel_rfl) rfl ?_; refine T3.cint ?_; intro _; (with_reducible refine T3.iLt ?_; refine T3.truB ?_)
      by_cases h3 : i < 3
      · refine yes (by simp; omega) ?_
        (with_reducible refine T3.calln ?_ rfl); refine T3.nG (by assumption) (by kernel_rfl) rfl ?_; refine T3.cw0 (by assumption) rfl ?_; (with_reducible refine T3.ar1 ?_); refine T3.nL (by kernel_rfl) rfl ?_; (with_reducible refine T3.ar1 ?_); refine T3.cint ?_; intro _; (with_reducible refine T3.ar0 ?_)
        refine T3.frTl (pre := [_, _]) (drop_ (m := 3) kf (hr.le (lit rfl)) hv2 (by decide) fun _ => rfl) ?_
        rintro _ P3 vs3 l3 hqa; obtain ⟨hqb, hv3⟩ := hqa; refine e2x2 hqb ?_; clear hqb; rintro r kr hra hrr; subst hra
        simp only [List.cons_append, List.nil_append, List.append_nil]
        (with_reducible refine T3.aName ?_); refine T3.st rfl ?_ (by kernel_rfl)
        exact ⟨by trivial, i4x5 r kr vs3 _ hrr rfl l3 hv3 (by repeat (first | exact Has.nil | refine Has.cons rfl ?_))⟩
      · refine no (by simp; omega) ?_
        (with_reducible refine T3.binop ?_); refine T3.nL (by kernel_rfl) rfl ?_; refine T3.cint ?_; intro _
        refine T3.iMod (by decide) fun kr => ?_
        (with_reducible refine T3.aName ?_); refine T3.st rfl ?_ (by kernel_rfl)
        exact ⟨rfl, i4x5 (i % 3) kr vs2 _ (Nat.mod_lt _ (by decide)) rfl (Le.refl _) hv2 (by repeat (first | exact Has.nil | refine Has.cons rfl ?_))⟩
    · rintro f P3 _ l3 hqa; obtain ⟨rfl, hqb⟩ := hqa; refine e4x5 hqb ?_; clear hqb; rintro w kw vs3 m3 hw hra q3 hv3 hm3; subst hra
      refine Nx.nx ?_
      refine (body w kw hw P3 vs3 m3 q3 hv3 hm3).conseq ?_
      rintro f P4 σ4 l4 ⟨rfl, h⟩
      exact h
  · rintro P2 _ l2 hqa; refine e5x5 hqa ?_; clear hqa; rintro m ks y k vs2 hra hm hty hks hv2; subst hra
    refine T3.ss0 ?_
    exact ⟨rfl, i5x5 m ks y k vs2 rfl hm hty hks hv2⟩
end
theorem loops_need : ∀ (ks : List LK) (t : Tr) (n p : Nat), need2 (loops ks t) n p = need2 t (n + ks.length) (if ks = [] then p else 2)
  | [], t, n, p => rfl
  | k :: ks, t, n, p => by
    show need2 (loops ks (.loop k t)) n p = _
    rw [loops_need ks (.loop k t) n p]
    show need2 t (n + ks.length + 1) 2 = need2 t (n + (ks.length + 1)) (if k :: ks = [] then p else 2)
    rw [if_neg (by simp), Nat.add_assoc]
theorem loops_sz : ∀ (ks : List LK) (t : Tr), (loops ks t).sz = t.sz + ks.length ∧ (loops ks t).ht = t.ht + ks.length
  | [], t => ⟨rfl, rfl⟩
  | k :: ks, t => by
    have := loops_sz ks (.loop k t)
    simp only [Tr.sz, Tr.ht] at this
    show (loops ks (.loop k t)).sz = _ ∧ (loops ks (.loop k t)).ht = _
    rw [this.1, this.2, List.length_cons, Nat.add_assoc, Nat.add_assoc, Nat.add_comm 1]
    exact ⟨rfl, rfl⟩
theorem loops_abc : ∀ (ks : List LK) (t : Tr), Abc t → Abc (loops ks t)
  | [], t, h => h
  | k :: ks, t, h => loops_abc ks (.loop k t) h
theorem loops_app (ks js : List LK) (t : Tr) : loops js (loops ks t) = loops (ks ++ js) t := by simp [loops, List.foldl_append]
theorem Rd.row1 {D : List (List Nat × Tr)} {d : Nat} {l : List Nat} {t : Tr} (h : Rd D d .sg l t) (ks : List LK) (hk : ks.length ≤ 20) : Rd D d (.row []) (l ++ ks.map LK.sign) (loops ks t) := by
  have r : Rd D d (.row []) (l ++ (ks.map LK.sign ++ [])) (catAll ([] ++ [loops ks t])) := .rowC h hk (by simp) .rowN
  rw [List.append_nil] at r
  exact r
theorem va_cons (x : Str × Value) (fs : Fs) (k : Str) : valueAt (x :: fs) k = if x.1 = k then some x.2 else valueAt fs k := by
  unfold valueAt
  rw [List.find?_cons]
  by_cases h : x.1 = k <;> simp [h]
theorem va_app (x : Str × Value) (k : Str) : ∀ fs : Fs, (fs.any fun kv => kv.1 = x.1) = false → valueAt (fs ++ [x]) k = if k = x.1 then some x.2 else valueAt fs k
  | [], _ => by
    rw [List.nil_append, va_cons]
    by_cases h : x.1 = k
    · rw [if_pos h, if_pos h.symm]
    · rw [if_neg h, if_neg (fun e => h e.symm)]
  | y :: fs, h => by
    rw [List.any_cons, Bool.or_eq_false_iff] at h
    rw [List.cons_append, va_cons, va_cons, va_app x k fs h.2]
    by_cases h1 : y.1 = k
    · have : k ≠ x.1 := fun e => by have := h.1; simp [h1, e] at this
      rw [if_pos h1, if_neg this, if_pos h1]
    · rw [if_neg h1, if_neg h1]
theorem va_map (k k' : Str) (v : Value) : ∀ fs : Fs, valueAt (fs.map fun kv => if kv.1 = k then (kv.1, v) else kv) k' = if k' = k ∧ (fs.any fun kv => kv.1 = k) = true then some v else valueAt fs k'
  | [] => by simp [valueAt]
  | y :: fs => by
    rw [List.map_cons, va_cons, va_map k k' v fs, va_cons, List.any_cons]
    by_cases h1 : y.1 = k
    · by_cases h2 : k' = k
      · simp [h1, h2]
      · have : ¬ k = k' := fun e => h2 e.symm
        simp [h1, h2, this]
    · by_cases h2 : k' = k
      · subst h2
        simp only [if_neg h1, decide_eq_false h1, Bool.false_or]
      · simp [h1, h2]
theorem value_stored (fs : Fs) (k k' : Str) (v : Value) : valueAt (stored fs k v) k' = if k' = k then some v else valueAt fs k' := by
  unfold stored
  by_cases h : (fs.any fun kv => decide (kv.1 = k)) = true
  · rw [if_pos h, va_map]
    simp [h]
  · rw [if_neg h]
    exact va_app (k, v) k' fs (Bool.eq_false_iff.mpr h)
/-- what is known -/
noncomputable def DefF (P : Vw) (D : List (List Nat × Tr)) (fs : Fs) : Prop := ∀ w t, D.lookup w = some t → ∃ v, valueAt fs (S w) = some v ∧ Node P v t
theorem DefF.le {P P' : Vw} {D : List (List Nat × Tr)} {fs : Fs} (q : Le P P') (h : DefF P D fs) : DefF P' D fs := fun w t e => let ⟨v, a, b⟩ := h w t e; ⟨v, a, b.le q⟩
theorem DefF.ok {c : Cx} {P : Vw} {D : List (List Nat × Tr)} {fs : Fs} {kd : Addr} (hk : kd ≠ sysModules) (h : DefF P D fs) : DefOk c P (.ref kd) D [(kd, IsD c fs)] := .inr ⟨kd, fs, rfl, hk, rfl, h⟩
theorem DefF.add {P : Vw} {D : List (List Nat × Tr)} {fs : Fs} {w : List Nat} {v : Value} {t : Tr} (h : DefF P D fs) (hv : Node P v t) : DefF P ((w, t) :: D) (stored fs (S w) v) := fun w' t' e => by
  rw [value_stored]
  rw [List.lookup_cons] at e
  by_cases q : w' = w
  · subst q
    rw [beq_self_eq_true] at e
    cases e
    exact i1x2 v (by rw [if_pos rfl]) hv
  · rw [show (w' == w) = false by simpa using q] at e
    refine e1x2 (h w' t' e) ?_; rintro u h5 h6
    exact i1x2 u (by rw [if_neg (fun z => q (S_inj z))]; exact h5) h6
theorem DefF.nil {P : Vw} : DefF P [] [] := fun _ _ e => by simp at e
theorem stored_len (fs : Fs) (k : Str) (v : Value) : (stored fs k v).length ≤ fs.length + 1 := by
  unfold stored
  split <;> simp
section
variable {c : Cx} {A : Around} {P : Vw} {σ vs : St} {d kd x L : Addr} {T : List Nat} {t0 : Tr} {cdv : Value} {kt : Tok}
structure Turn (D : List (List Nat × Tr)) (T : List Nat) (t0 : Tr) (ks : List LK) (i : Nat) : Prop where
  sg : i < 3 → Rd D 0 .sg T (loops ks t0)
  sg1 : i = 0 → Rd D 1 .sg T (loops ks t0)
  row : Rd D 0 (.row []) T (loops ks t0)
  len : T.length ≤ 60
  len0 : i = 0 → T.length ≤ 10
  len1 : i < 3 → T.length ≤ 40
  ne : 0 < T.length
  ks : ks.length ≤ 20 * i
structure Base (t0 : Tr) : Prop where
  abc : Abc t0
  sz : t0.sz ≤ 6
  ht : t0.ht ≤ 6
  need : ∀ n p, need2 t0 n p ≤ 2 + n / 20
noncomputable def TurnI (c : Cx) (d : Addr) (t0 : Tr) (kd L : Addr) (i : Nat) (P' : Vw) (σ' : St) : Prop :=
  ∃ m T D ks fs y k vs, σ' = (L, NsP m) :: (kd, IsD c fs) :: vs ∧ Has m [(Str.ofString "known", .ref kd), (Str.ofString "text", .str (S T) k), (Str.ofString "tree", .ref y), (Str.ofString "vial", .ref d)] ∧ TreeV P' (.ref y) (loops ks t0) ∧ Vial c d vs ∧ fs.length ≤ i ∧ DefF P' D fs ∧ Turn D T t0 ks i
theorem Base.needL {t0 : Tr} (b : Base t0) (ks : List LK) (hk : ks.length ≤ 60) : Mine.need (loops ks t0) 0 ≤ 20 := by
  have := b.need (0 + ks.length) (if ks = [] then 0 else 2)
  show need2 (loops ks t0) 0 0 ≤ 20
  rw [loops_need]
  omega
theorem toStr (i : Nat) (hi : i < 2) : Str.ofString (toString ((i : Nat) : Int)) = S [48 + i] := by
  rcases i with _ | _ | i
  · kernel_rfl
  · kernel_rfl
  · omega
/-- the end of a turn: a definition -/
theorem turn_def (kf : KF c) (kg : KG c) (hr : Room A 190) {i : Nat} (hi : i < 2) {T : List Nat} {D : List (List Nat × Tr)} {ks : List LK} {fs : Fs} {y : Addr} {k ki : Tok} {m : Lo} (b : Base t0) (hk : ks.length ≤ 40) (hkd : kd ≠ sysModules)
    (hm : Has m [(Str.ofString "turn", .int (i : Nat) ki), (Str.ofString "known", .ref kd), (Str.ofString "text", .str (S T) k), (Str.ofString "tree", .ref y), (Str.ofString "vial", .ref d)]) (hT : T.length ≤ 100) (hR : Rd D 0 (.row []) T (loops ks t0)) (hD : DefF P D fs) (hty : TreeV P (.ref y) (loops ks t0)) (hv : Vial c d vs) (hf : fs.length ≤ i) (hks : ks.length ≤ 20 * (i + 1))
    {orelse : List Stmt} (ho : orelse = (match nthS turnB 2 with | .If _ _ b2 _ => b2 | _ => [])) :
    T3 c A (execs orelse (eL L cdv)) P ((L, NsP m) :: (kd, IsD c fs) :: vs) (fun f P' σ' => f = .next ∧ TurnI c d t0 kd L (i + 1) P' σ') NoE := by
  subst ho
  refine T3.forget hm ?_
  refine T3.ss1 ?_
  (with_reducible refine T3.sIf ?_; refine T3.isCmp ?_ rfl); refine T3.nL (by kernel_rfl) rfl ?_; refine T3.cint ?_; intro _; (with_reducible refine T3.iLt ?_; refine T3.truB ?_)
  refine yes (by simp; omega) ?_
  (with_reducible refine T3.ss1 ?_); refine T3.sAsg ?_ rfl rfl rfl; (with_reducible refine T3.calln ?_ rfl); refine T3.nG (by assumption) (by kernel_rfl) rfl ?_; refine T3.cw0 (by assumption) rfl ?_; (with_reducible refine T3.ar1 ?_); refine T3.nL (by kernel_rfl) rfl ?_; (with_reducible refine T3.ar1 ?_); refine T3.nL (by kernel_rfl) rfl ?_; (with_reducible refine T3.ar0 ?_)
  have hlh := loops_sz ks t0
  have hs1 := b.sz
  have hs2 := b.ht
  refine T3.frMd (pre := [_]) (σ₁ := [_]) (post := vs) (heard_ok (t := loops ks t0) kf kg (hr.le (by omega)) (by omega) hR .choN (List.append_nil T).symm (hD.ok hkd) (b.needL ks (by omega)) (by omega)) ?_
  rintro v P1 _ l1 ⟨hv1, rfl⟩
  simp only [List.cons_append, List.nil_append, List.append_nil]
  (with_reducible refine T3.aSub ?_); refine T3.nL (by kernel_rfl) rfl ?_; (with_reducible refine T3.binop ?_); refine T3.cstr ?_; intro _; (with_reducible refine T3.calln ?_ rfl); refine T3.nB (by assumption) (by kernel_rfl) (by boot_by_name) ?_; (with_reducible refine T3.cwT ?_; refine T3.ar1 ?_); refine T3.nL (by kernel_rfl) rfl ?_; (with_reducible refine T3.ar0 ?_)
  refine T3.iStr (by rcases i with _ | _ | i <;> first | decide | omega) fun _ => ?_
  rw [toStr i hi]
  refine T3.sAdd (by rw [sizeLine_eq]; show 1 + 1 ≤ _; omega) fun _ => ?_
  rw [show Str.ofString "D" ++ S [48 + i] = S [68, 48 + i] from S_add [68] [48 + i]]
  refine T3.dSet (pre := [_]) (by omega) ?_
  simp only [List.cons_append, List.nil_append, List.append_nil]
  (with_reducible refine Nx.nx ?_; refine T3.ss1 ?_); refine T3.sAsg ?_ rfl rfl rfl; (with_reducible refine T3.binop ?_; refine T3.binop ?_); refine T3.cstr ?_; intro _; (with_reducible refine T3.calln ?_ rfl); refine T3.nB (by assumption) (by kernel_rfl) (by boot_by_name) ?_; (with_reducible refine T3.cwT ?_; refine T3.ar1 ?_); refine T3.nL (by kernel_rfl) rfl ?_; (with_reducible refine T3.ar0 ?_)
  refine T3.iStr (by rcases i with _ | _ | i <;> first | decide | omega) fun _ => ?_
  rw [toStr i hi]
  refine T3.sAdd (by rw [sizeLine_eq]; show 2 + 1 ≤ _; omega) fun _ => ?_
  rw [show Str.ofString "{D" ++ S [48 + i] = S [123, 68, 48 + i] from S_add [123, 68] [48 + i]]
  refine T3.cstr ?_; intro _
  refine T3.sAdd (by rw [sizeLine_eq]; show 3 + 1 ≤ _; omega) fun _ => ?_
  rw [show S [123, 68, 48 + i] ++ Str.ofString "}" = S [123, 68, 48 + i, 125] from S_add [123, 68, 48 + i] [125]]
  (with_reducible refine T3.aName ?_); refine T3.st rfl ?_ (by kernel_rfl); (with_reducible refine Nx.nx ?_; refine T3.ss0 ?_; refine Nx.nx ?_; refine T3.ss0 ?_)
  have hw : wordOk [68, 48 + i] := by
    rcases i with _ | _ | i
    · exact i0x3 (by decide) (by decide) (by decide)
    · exact i0x3 (by decide) (by decide) (by decide)
    · omega
  have hsg : Rd (([68, 48 + i], loops ks t0) :: D) 0 .sg [123, 68, 48 + i, 125] (loops ks t0) := .dfn (w := [68, 48 + i]) (by rw [List.lookup_cons, beq_self_eq_true]) hw
  refine ⟨rfl, i8x7 _ [123, 68, 48 + i, 125] _ ks _ y _ vs rfl (by repeat (first | exact Has.nil | refine Has.cons rfl ?_)) (hty.le l1) hv ?_ ((hD.le l1).add hv1) ⟨fun _ => hsg, by simp, ?_, by simp, by simp, by simp, by simp, by assumption⟩⟩
  · have := stored_len fs (S [68, 48 + i]) v; omega
  · have := hsg.row1 [] (by simp)
    simpa [loops] using this
end
section
variable {c : Cx} {A : Around} {P : Vw} {σ vs : St} {d kd x L : Addr} {T : List Nat} {t0 : Tr} {cdv : Value} {kt : Tok}
structure Good (D : List (List Nat × Tr)) (T : List Nat) (t : Tr) : Prop where
  rd : Rd D 0 (.row []) T t
  ne : 0 < T.length
  len : T.length ≤ 1000
  abc : Abc t
  sz : t.sz ≤ 100
  ht : t.ht ≤ 100
/-- what looped and wrapped hand back -/
noncomputable def Built (c : Cx) (d : Addr) (v : Value) (P : Vw) (σ : St) : Prop := ∃ a T t D fs k y kd vs, v = .ref a ∧ σ = (kd, IsD c fs) :: vs ∧ TuP P a [.str (S T) k, .ref y, .ref kd] ∧ TreeV P (.ref y) t ∧ kd ≠ sysModules ∧ DefF P D fs ∧ Good D T t ∧ Vial c d vs
theorem looped_law_ (kf : KF c) (kg : KG c) (hr : Room A 200) (b : Base t0) (ht : TreeV P (.ref x) t0) (hT : Rd [] 0 .sg T t0) (hT1 : Rd [] 1 .sg T t0) (hl : T.length ≤ 10) (hv : Vial c d vs) :
    T3 c A (PySem.call (.ref 1026) [.ref d, .str (S T) kt, .ref x]) P vs (Built c d) NoE := by
  refine T3.d0 kf.f__law_looped [("tree", .ref x), ("text", .str (S T) kt), ("vial", .ref d)] hr.dep (fun _ _ _ _ _ _ => by kernel_rfl) (by kernel_rfl) fun L cdv => ?_
  have hd : Room (A.deeper (eL L cdv)) 199 := hr.deeper
  refine T3.ss1 ?_
  refine T3.sAsg ?_ rfl rfl rfl
  refine T3.dNew fun kd hkd _ => ?_
  (with_reducible refine T3.aName ?_); refine T3.st rfl ?_ (by kernel_rfl); (with_reducible refine Nx.nx ?_; refine T3.ss1 ?_); refine T3.sFor ?_ (fun _ => rfl); (with_reducible refine T3.calln ?_ rfl); refine T3.nB (by assumption) (by kernel_rfl) (by boot_by_name) ?_; (with_reducible refine T3.cwT ?_; refine T3.ar1 ?_; refine T3.binop ?_); refine T3.cint ?_; intro _; (with_reducible refine T3.calln ?_ rfl); refine T3.nG (by assumption) (by kernel_rfl) rfl ?_; refine T3.cw0 (by assumption) rfl ?_; (with_reducible refine T3.ar1 ?_); refine T3.nL (by kernel_rfl) rfl ?_; (with_reducible refine T3.ar1 ?_); refine T3.cint ?_; intro _; (with_reducible refine T3.ar0 ?_)
  refine T3.frTl (pre := [_, _]) (drop_ (m := 3) kf (hd.le (lit rfl)) hv (by decide) fun _ => rfl) ?_
  rintro _ P1 vs1 l1 hqa; obtain ⟨hqb, hv1⟩ := hqa; refine e2x2 hqb ?_; clear hqb; rintro r kr hra hrr; subst hra
  simp only [List.cons_append, List.nil_append, List.append_nil]
  refine T3.iAdd ?_; intro _; (with_reducible refine T3.ar0 ?_)
  rw [show (1 : Int) + (r : Nat) = ((1 + r : Nat) : Int) by omega]
  refine T3.newRa fun ra P2 l2 hra => ?_
  have hrow : Rd [] 0 (.row []) T t0 := by simpa [loops] using hT.row1 [] (by simp)
  have hne : 0 < T.length := by obtain ⟨ch, r, rfl, _⟩ := hT.sgHead; simp
  refine T3.itRa (n := 1 + r) hra (by omega) hd.no (TurnI c d t0 kd L)
    ⟨_, T, [], [], [], x, kt, vs1, rfl, by repeat (first | exact Has.nil | refine Has.cons rfl ?_), (ht.le l1).le l2, hv1, Nat.zero_le _, DefF.nil, ⟨fun _ => hT, fun _ => hT1, hrow, by omega, fun _ => hl, fun _ => by omega, hne, by simp⟩⟩ ⟨?_, ?_⟩
  · rintro i v P3 _ l3 hi ⟨ki, rfl⟩ hqa; refine e8x7 hqa ?_; clear hqa; rintro m T D ks fs y k vs hra hm hty hv hfs hD tn; subst hra
    have hi3 : i < 3 := by omega
    refine T3.forget hm ?_
    refine T3.aName (T3.st rfl ?_ ?hp)
    case hp => kernel_rfl
    have mosts : ∃ mo : Nat, [20, 20, 4][i]? = some mo ∧ 0 < mo ∧ mo ≤ 20 ∧ ∀ j, Builtin.divisionGoesByPylong j (mo : Int) = false := by
      rcases i with _ | _ | _ | i
      · exact i1x4 20 rfl (by decide) (by decide) (fun _ => rfl)
      · exact i1x4 20 rfl (by decide) (by decide) (fun _ => rfl)
      · exact i1x4 4 rfl (by decide) (by decide) (fun _ => rfl)
      · omega
    refine e1x4 (mosts) ?_; rintro mo hmo hmo0 hmo20 hmop
    refine T3.ss1 (T3.conseq (Q := fun f P4 σ4 => f = .next ∧ ∃ many km vs4 m4, many ≤ 20 ∧ σ4 = (L, NsP m4) :: (kd, IsD c fs) :: vs4 ∧ Le P3 P4 ∧ Vial c d vs4 ∧ Has m4 [(Str.ofString "many", .int (many : Nat) km), (Str.ofString "turn", .int (i : Nat) ki), (Str.ofString "known", .ref kd), (Str.ofString "text", .str (S T) k), (Str.ofString "tree", .ref y), (Str.ofString "vial", .ref d)]) ?_ ?_)
    · refine T3.sAsg ?_ rfl rfl rfl; (with_reducible refine T3.binop ?_); refine T3.cint ?_; intro _; (with_reducible refine T3.calln ?_ rfl); refine T3.nG (by assumption) (by kernel_rfl) rfl ?_; refine T3.cw0 (by assumption) rfl ?_; (with_reducible refine T3.ar1 ?_); refine T3.nL (by kernel_rfl) rfl ?_; (with_reducible refine T3.ar1 ?_); refine T3.subG ?_ (fun _ _ => rfl); (with_reducible refine T3.tup ?_ rfl; refine T3.ar1 ?_); refine T3.cint ?_; intro _; (with_reducible refine T3.ar1 ?_); refine T3.cint ?_; intro _; (with_reducible refine T3.ar1 ?_); refine T3.cint ?_; intro _; (with_reducible refine T3.ar0 ?_); refine T3.newTu (lit rfl) ?_; intro _ _ _ _; refine T3.nL (by kernel_rfl) rfl ?_; refine T3.gTu (by with_reducible assumption) ?_
      rename_i tt P4 l4 htt
      obtain ⟨k1, k2, k3, htt⟩ : ∃ k1 k2 k3, TuP P4 tt [.int 20 k1, .int 20 k2, .int 4 k3] := ⟨_, _, _, htt⟩
      obtain ⟨kk, hnm⟩ : ∃ kk, [Value.int 20 k1, .int 20 k2, .int 4 k3][i]? = some (Value.int (mo : Nat) kk) := by
        rcases i with _ | _ | _ | i
        · cases hmo; exact ⟨_, rfl⟩
        · cases hmo; exact ⟨_, rfl⟩
        · cases hmo; exact ⟨_, rfl⟩
        · omega
      refine T3.tItem (k := i) htt rfl hnm (by rw [sizeLine_eq]; simp) ?_
      (with_reducible refine T3.ar0 ?_)
      refine T3.frTl (pre := [_, _]) (drop_ (m := mo) kf (hd.le (lit rfl)) hv hmo0 hmop) ?_
      rintro _ P5 vs5 l5 hqa; obtain ⟨hqb, hv5⟩ := hqa; refine e2x2 hqb ?_; clear hqb; rintro r5 kr5 hra hrr5; subst hra
      simp only [List.cons_append, List.nil_append, List.append_nil]
      refine T3.iAdd ?_; intro _; (with_reducible refine T3.aName ?_); refine T3.st rfl ?_ (by kernel_rfl)
      exact ⟨by trivial, i4x5 (1 + r5) _ vs5 _ (by omega) rfl (l4.trans l5) hv5 (by repeat (first | exact Has.nil | refine Has.cons rfl ?_))⟩
    · rintro f P4 _ l4 hqa; obtain ⟨rfl, hqb⟩ := hqa; refine e4x5 hqb ?_; clear hqb; rintro many km vs4 m4 hmany hra q4 hv4 hm4; subst hra
      refine Nx.nx ?_
      refine T3.ss1 ((laps_ kf (hd.le (lit rfl)) hm4 hmany (by have := tn.len; omega) (hty.le q4) hv4).conseq ?_)
      rintro f P5 _ l5 hqa; obtain ⟨rfl, hqb⟩ := hqa; refine e5x5 hqb ?_; clear hqb; rintro m5 js y5 k5 vs5 hra hm5 hty5 hjs hv5; subst hra
      refine Nx.nx ?_
      rw [loops_app] at hty5
      have hT5 : (T ++ js.map LK.sign).length = T.length + many := by simp [hjs]
      have htl := tn.len
      have hks := tn.ks
      have hrow5 : Rd D 0 (.row []) (T ++ js.map LK.sign) (loops (ks ++ js) t0) := by
        have := (tn.sg hi3).row1 js (by omega)
        rwa [loops_app] at this
      have hD5 : DefF P5 D fs := (hD.le q4).le l5
      have hl5 : (ks ++ js).length ≤ 20 * (i + 1) := by rw [List.length_append]; omega
      refine T3.forget hm5 ?_
      by_cases hi0 : i = 0
      · subst hi0
        (with_reducible refine T3.ss1 ?_; refine T3.sIf ?_; refine T3.isBool ?_; refine T3.and1 ?_; refine T3.isCmp ?_ rfl); refine T3.nL (by kernel_rfl) rfl ?_; refine T3.cint ?_; intro _; (with_reducible refine T3.iEq ?_; refine T3.truB ?_; refine yes rfl ?_; refine T3.and1 ?_; refine T3.isCmp ?_ rfl; refine T3.calln ?_ rfl); refine T3.nG (by assumption) (by kernel_rfl) rfl ?_; refine T3.cw0 (by assumption) rfl ?_; (with_reducible refine T3.ar1 ?_); refine T3.nL (by kernel_rfl) rfl ?_; (with_reducible refine T3.ar1 ?_); refine T3.cint ?_; intro _; (with_reducible refine T3.ar0 ?_)
        refine T3.frTl (pre := [_, _]) (drop_ (m := 2) kf (hd.le (lit rfl)) hv5 (by decide) fun _ => rfl) ?_
        rintro _ P6 vs6 l6 hqa; obtain ⟨hqb, hv6⟩ := hqa; refine e2x2 hqb ?_; clear hqb; rintro r6 kr6 hra hrr6; subst hra
        simp only [List.cons_append, List.nil_append, List.append_nil]
        refine T3.cint ?_; intro _; (with_reducible refine T3.iEq ?_; refine T3.truB ?_)
        by_cases h1 : r6 = 1
        · refine yes (by simp; omega) ?_
          (with_reducible refine T3.and0 ?_; refine yes rfl ?_; refine T3.ss1 ?_); refine T3.sAsg ?_ rfl rfl rfl; (with_reducible refine T3.binop ?_; refine T3.binop ?_); refine T3.cstr ?_; intro _; refine T3.nL (by kernel_rfl) rfl ?_
          refine T3.sAdd (by rw [sizeLine_eq, S_len]; show 1 + _ ≤ _; omega) fun _ => ?_
          refine T3.cstr ?_; intro _
          refine T3.sAdd (by rw [sizeLine_eq]; show (S [40] ++ S _).length + 1 ≤ _; rw [S_add, S_len]; simp; omega) fun _ => ?_
          rw [in_brk]
          (with_reducible refine T3.aName ?_); refine T3.st rfl ?_ (by kernel_rfl); (with_reducible refine Nx.nx ?_; refine T3.ss0 ?_; refine Nx.nx ?_; refine T3.ss0 ?_)
          have hsg : Rd D 0 .sg (40 :: ((T ++ js.map LK.sign) ++ [41])) (loops (ks ++ js) t0) := by
            have := (tn.sg1 rfl).row1 js (by omega)
            rw [loops_app] at this
            exact .par (l2 := []) (by decide) this .choN
          have hr1 := hsg.row1 [] (by simp)
          have h0 := tn.len0 rfl
          refine i8x7 _ _ D (ks ++ js) fs y5 _ vs6 rfl (by repeat (first | exact Has.nil | refine Has.cons rfl ?_)) (hty5.le l6) hv6 (by omega) (hD5.le l6) ⟨fun _ => hsg, by simp, by simpa [loops] using hr1, ?_, by simp, fun _ => ?_, by simp, hl5⟩
          · simp only [List.length_cons, List.length_append, List.length_map, List.length_nil]; omega
          · simp only [List.length_cons, List.length_append, List.length_map, List.length_nil]; omega
        · refine no (by simp; omega) ?_
          refine ⟨fun h => absurd h (by decide), fun _ => ?_⟩
          refine (turn_def kf kg (hd.le (lit rfl)) (i := 0) (by decide) b (by omega) hkd (by repeat (first | exact Has.nil | refine Has.cons rfl ?_)) (by omega) hrow5 (hD5.le l6) (hty5.le l6) hv6 hfs hl5 rfl).conseq ?_
          rintro f P7 σ7 l7 ⟨rfl, h⟩
          exact Nx.nx (T3.ss0 h)
      · (with_reducible refine T3.ss1 ?_; refine T3.sIf ?_; refine T3.isBool ?_; refine T3.and1 ?_; refine T3.isCmp ?_ rfl); refine T3.nL (by kernel_rfl) rfl ?_; refine T3.cint ?_; intro _; (with_reducible refine T3.iEq ?_; refine T3.truB ?_)
        refine no (by simp; omega) ?_
        refine no rfl ?_
        by_cases h2 : i < 2
        · refine (turn_def kf kg (hd.le (lit rfl)) (i := i) h2 b (by omega) hkd (by repeat (first | exact Has.nil | refine Has.cons rfl ?_)) (by omega) hrow5 hD5 hty5 hv5 hfs hl5 rfl).conseq ?_
          rintro f P7 σ7 l7 ⟨rfl, h⟩
          exact Nx.nx (T3.ss0 h)
        · refine T3.ss1 ?_
          (with_reducible refine T3.sIf ?_; refine T3.isCmp ?_ rfl); refine T3.nL (by kernel_rfl) rfl ?_; refine T3.cint ?_; intro _; (with_reducible refine T3.iLt ?_; refine T3.truB ?_)
          refine no (by simp; omega) ?_
          (with_reducible refine T3.ss0 ?_; refine Nx.nx ?_; refine T3.ss0 ?_; refine Nx.nx ?_; refine T3.ss0 ?_)
          have htl1 := tn.len1 hi3
          exact i8x7 _ _ D (ks ++ js) fs y5 _ vs5 rfl (by repeat (first | exact Has.nil | refine Has.cons rfl ?_)) hty5 hv5 (by omega) hD5 ⟨fun h => by omega, fun h => by omega, hrow5, by omega, fun h => by omega, fun h => by omega, by rw [hT5]; have := tn.ne; omega, hl5⟩
  · rintro P3 _ l3 hqa; refine e8x7 hqa ?_; clear hqa; rintro m T D ks fs y k vs hra hm hty hv hfs hD tn; subst hra
    refine T3.forget hm ?_
    (with_reducible refine T3.ss0 ?_; refine Nx.nx ?_; refine T3.ss1 ?_; refine T3.sRet ?_; refine T3.tup ?_ rfl; refine T3.ar1 ?_); refine T3.nL (by kernel_rfl) rfl ?_; (with_reducible refine T3.ar1 ?_); refine T3.nL (by kernel_rfl) rfl ?_; (with_reducible refine T3.ar1 ?_); refine T3.nL (by kernel_rfl) rfl ?_; (with_reducible refine T3.ar0 ?_); refine T3.newTu (lit rfl) ?_; intro _ _ _ _; (with_reducible refine Nx.ret ?_)
    have hlh := loops_sz ks t0
    have hs1 := b.sz
    have hs2 := b.ht
    have hks := tn.ks
    have htl := tn.len
    exact Bk.mk (i9x8 _ T (loops ks t0) D fs k y kd vs rfl rfl (by assumption) (by (with_reducible (apply TreeV.le); (focus assumption); assumption)) hkd (hD.le (by assumption)) ⟨tn.row, tn.ne, by omega, loops_abc ks t0 b.abc, by omega, by omega⟩ hv)
end
noncomputable def wrapT (t : Tr) : Tr := .cat (.alt t (.chr 98)) (.chr 99)
noncomputable def wrapN : Nat → Tr → Tr
  | 0, t => t
  | n + 1, t => wrapT (wrapN n t)
theorem wrap_sz (t : Tr) : ∀ n, (wrapN n t).sz = t.sz + 4 * n ∧ (wrapN n t).ht ≤ t.ht + 2 * n
  | 0 => ⟨rfl, Nat.le_refl _⟩
  | n + 1 => by
    obtain ⟨h1, h2⟩ := wrap_sz t n
    have h0 : 0 < (wrapN n t).ht := by cases wrapN n t <;> exact Nat.succ_pos _
    refine ⟨?_, ?_⟩
    · show (wrapN n t).sz + 4 = _
      rw [h1]; rfl
    · show max (max (wrapN n t).ht 1 + 1) 1 + 1 ≤ _
      rw [Nat.max_eq_left h0, Nat.max_eq_left (Nat.succ_pos _)]
      exact Nat.add_le_add_right h2 2
theorem wrap_abc {t : Tr} (h : Abc t) : ∀ n, Abc (wrapN n t)
  | 0 => h
  | n + 1 => ⟨⟨wrap_abc h n, .inr (.inl rfl)⟩, .inr (.inr rfl)⟩
theorem wrap_need {t : Tr} (h : ∀ p, need t p ≤ 2) : ∀ n, need (wrapN (n + 1) t) 0 ≤ n + 3
  | 0 => by
    have := h (if isPk .alt t then 0 else 1)
    show max (max (need t (if isPk .alt t then 0 else 1)) 0 + 1 + 0) 0 + 0 + 0 ≤ _
    rw [Nat.max_zero, Nat.max_zero]
    exact Nat.succ_le_succ this
  | n + 1 => by
    have := wrap_need h n
    have e : need (wrapN (n + 1) t) 1 = need (wrapN (n + 1) t) 0 := need_cat _ _ 1
    show max (max (need (wrapN (n + 1) t) 1) 0 + 1 + 0) 0 + 0 + 0 ≤ _
    rw [Nat.max_zero, Nat.max_zero, e]
    exact Nat.succ_le_succ this
theorem wrap_rd {D : List (List Nat × Tr)} {d : Nat} {T : List Nat} {t : Tr} (hd : d < 20) (h : Rd D (d + 1) (.row []) T t) : Rd D d (.row []) (40 :: (T ++ [124, 98, 41, 99])) (wrapT t) := by
  have pb : Rd D (d + 1) (.row []) [98] (.chr 98) := by simpa [loops] using (Rd.chr (D := D) (d := d + 1) (ch := 98) ⟨by decide, by decide⟩).row1 [] (by simp)
  have c1 : Rd D (d + 1) (.cho t) (124 :: ([98] ++ [])) (.alt t (.chr 98)) := .choC pb .choN
  have s1 : Rd D d .sg (40 :: (T ++ ((124 :: ([98] ++ [])) ++ [41]))) (.alt t (.chr 98)) := .par hd h c1
  have r2 : Rd D d (.row ([] ++ [loops [] (.alt t (.chr 98))])) ([99] ++ (([] : List LK).map LK.sign ++ [])) (catAll (([] ++ [loops [] (.alt t (.chr 98))]) ++ [loops [] (.chr 99)])) := .rowC (.chr ⟨by decide, by decide⟩) (by simp) (by simp) .rowN
  have r1 := Rd.rowC (acc := []) (ks := []) s1 (by simp) (by simp) r2
  have e : (40 :: (T ++ ((124 :: ([98] ++ [])) ++ [41]))) ++ (([] : List LK).map LK.sign ++ ([99] ++ (([] : List LK).map LK.sign ++ []))) = 40 :: (T ++ [124, 98, 41, 99]) := by simp
  rw [e] at r1
  exact r1
section
variable {c : Cx} {A : Around} {P : Vw} {σ vs : St} {d kd x L : Addr} {T : List Nat} {t0 : Tr} {cdv : Value} {kt : Tok}
structure Wr (D : List (List Nat × Tr)) (T : List Nat) (t0 : Tr) (cut i : Nat) : Prop where
  lo : i ≤ cut → D = [] ∧ T.length ≤ 10 + 6 * i ∧ ∀ dd, dd + i + 1 ≤ 20 → Rd D dd (.row []) T (wrapN i t0)
  hi : cut < i → T.length ≤ 3 + 6 * (i - cut) ∧ ∀ dd, dd + (i - cut - 1) ≤ 20 → Rd D dd (.row []) T (wrapN i t0)
  ne : 0 < T.length
theorem wrapped_law_ (kf : KF c) (kg : KG c) (hr : Room A 240) (b : Base t0) (ht : TreeV P (.ref x) t0) (hT : ∀ dd, dd + 1 ≤ 20 → Rd [] dd (.row []) T t0) (hl : T.length ≤ 10) (hne : 0 < T.length) (hv : Vial c d vs) :
    T3 c A (PySem.call (.ref 1033) [.ref d, .str (S T) kt, .ref x]) P vs (Built c d) NoE := by
  refine T3.d0 kf.f__law_wrapped [("tree", .ref x), ("text", .str (S T) kt), ("vial", .ref d)] hr.dep (fun _ _ _ _ _ _ => by kernel_rfl) (by kernel_rfl) fun L cdv => ?_
  have hd : Room (A.deeper (mkE (fdS (topS 75)) (Str.ofString "_law_wrapped") L 1033 cdv)) 239 := hr.deeper
  refine T3.ss1 (T3.sSw2 hd.no ?_ rfl rfl rfl)
  refine T3.dNew fun kd hkd _ => ?_
  (with_reducible refine T3.binop ?_); refine T3.cint ?_; intro _; (with_reducible refine T3.calln ?_ rfl); refine T3.nG (by assumption) (by kernel_rfl) rfl ?_; refine T3.cw0 (by assumption) rfl ?_; (with_reducible refine T3.ar1 ?_); refine T3.nL (by kernel_rfl) rfl ?_; (with_reducible refine T3.ar1 ?_); refine T3.cint ?_; intro _; (with_reducible refine T3.ar0 ?_)
  refine T3.frTl (pre := [_, _]) (drop_ (m := 6) kf (hd.le (lit rfl)) hv (by decide) fun _ => rfl) ?_
  rintro _ P1 vs1 l1 hqa; obtain ⟨hqb, hv1⟩ := hqa; refine e2x2 hqb ?_; clear hqb; rintro r kr hra hrr; subst hra
  simp only [List.cons_append, List.nil_append, List.append_nil]
  refine T3.iAdd ?_; intro _
  intro P2 l2
  refine T3.st rfl ?_ (by kernel_rfl); refine T3.st rfl ?_ (by kernel_rfl); (with_reducible refine Nx.nx ?_; refine T3.ss1 ?_); refine T3.sAsg ?_ rfl rfl rfl; (with_reducible refine T3.binop ?_); refine T3.cint ?_; intro _; (with_reducible refine T3.calln ?_ rfl); refine T3.nG (by assumption) (by kernel_rfl) rfl ?_; refine T3.cw0 (by assumption) rfl ?_; (with_reducible refine T3.ar1 ?_); refine T3.nL (by kernel_rfl) rfl ?_; (with_reducible refine T3.ar1 ?_); refine T3.cint ?_; intro _; (with_reducible refine T3.ar0 ?_)
  refine T3.frTl (pre := [_, _]) (drop_ (m := 10) kf (hd.le (lit rfl)) hv1 (by decide) fun _ => rfl) ?_
  rintro _ P3 vs2 l3 hqa; obtain ⟨hqb, hv2⟩ := hqa; refine e2x2 hqb ?_; clear hqb; rintro r2 kr2 hra hrr2; subst hra
  simp only [List.cons_append, List.nil_append, List.append_nil]
  refine T3.iAdd ?_; intro _; (with_reducible refine T3.aName ?_); refine T3.st rfl ?_ (by kernel_rfl); (with_reducible refine Nx.nx ?_; refine T3.ss1 ?_); refine T3.sFor ?_ (fun _ => rfl); (with_reducible refine T3.calln ?_ rfl); refine T3.nB (by assumption) (by kernel_rfl) (by boot_by_name) ?_; (with_reducible refine T3.cwT ?_; refine T3.ar1 ?_); refine T3.nL (by kernel_rfl) rfl ?_; (with_reducible refine T3.ar0 ?_)
  rename_i kc
  rw [show (17 : Int) + (r : Nat) = ((17 + r : Nat) : Int) by omega, show (6 : Int) + (r2 : Nat) = ((6 + r2 : Nat) : Int) by omega]
  refine T3.newRa fun ra P4 l4 hra => ?_
  have ht4 : TreeV P4 (.ref x) t0 := (((ht.le l1).le l2).le l3).le l4
  let I1 : Nat → Vw → St → Prop := fun i P' σ' => ∃ m T D fs y k vs, σ' = (L, NsP m) :: (kd, IsD c fs) :: vs ∧ Has m [(Str.ofString "cut", .int ((6 + r2 : Nat) : Int) kc), (Str.ofString "known", .ref kd), (Str.ofString "text", .str (S T) k), (Str.ofString "tree", .ref y), (Str.ofString "vial", .ref d)] ∧ TreeV P' (.ref y) (wrapN i t0) ∧ Vial c d vs ∧ fs.length ≤ i ∧ DefF P' D fs ∧ Wr D T t0 (6 + r2) i
  refine T3.itRa (n := 17 + r) hra (by omega) hd.no I1
    ⟨_, T, [], [], x, kt, vs2, rfl, by repeat (first | exact Has.nil | refine Has.cons rfl ?_), ht4, hv2, Nat.zero_le _, DefF.nil, ⟨fun _ => ⟨rfl, by assumption, fun dd h => hT dd (by assumption)⟩, fun h => by omega, hne⟩⟩ ⟨?_, ?_⟩
  · rintro i v P5 _ l5 hi ⟨ki, rfl⟩ hqa; refine e7x7 hqa ?_; clear hqa; rintro m T D fs y k vs hra hm hty hv hfs hD wr; subst hra
    refine T3.forget hm ?_
    (with_reducible refine T3.aName ?_); refine T3.st rfl ?_ (by kernel_rfl); (with_reducible refine T3.ss1 ?_); refine T3.sAsg ?_ rfl rfl rfl; (with_reducible refine T3.binop ?_; refine T3.binop ?_); refine T3.cstr ?_; intro _; refine T3.nL (by kernel_rfl) rfl ?_
    have hlen : T.length ≤ 200 := by
      by_cases h : i ≤ 6 + r2
      · have := (wr.lo h).2.1; omega
      · have := (wr.hi (by omega)).1; omega
    refine T3.sAdd (by rw [sizeLine_eq, S_len]; show 1 + _ ≤ _; omega) fun _ => ?_
    rw [show Str.ofString "(" ++ S T = S (40 :: T) from S_add [40] T]
    refine T3.cstr ?_; intro _
    refine T3.sAdd (by rw [sizeLine_eq, S_len]; show _ + 4 ≤ _; simp; omega) fun kn => ?_
    rw [show S (40 :: T) ++ Str.ofString "|b)c" = S (40 :: (T ++ [124, 98, 41, 99])) from S_add (40 :: T) [124, 98, 41, 99]]
    (with_reducible refine T3.aName ?_); refine T3.st rfl ?_ (by kernel_rfl); (with_reducible refine Nx.nx ?_; refine T3.ss1 ?_); refine T3.sAsg ?_ rfl rfl rfl; (with_reducible refine T3.tup ?_ rfl; refine T3.ar1 ?_); refine T3.cstr ?_; intro _; (with_reducible refine T3.ar1 ?_; refine T3.tup ?_ rfl; refine T3.ar1 ?_); refine T3.cstr ?_; intro _; (with_reducible refine T3.ar1 ?_); refine T3.nL (by kernel_rfl) rfl ?_; (with_reducible refine T3.ar1 ?_; refine T3.calln ?_ rfl); refine T3.nG (by assumption) (by kernel_rfl) rfl ?_; refine T3.cw0 (by assumption) rfl ?_; (with_reducible refine T3.ar1 ?_); refine T3.cstr ?_; intro _; (with_reducible refine T3.ar0 ?_)
    refine T3.fr0 (law_sign_ (ch := 98) kf (hd.le (lit rfl)) (by decide)) ?_ (fun _ _ _ q => q.2)
    rintro _ P6 l6 ⟨hb, _⟩
    obtain ⟨xb, rfl⟩ := hb.ref
    (with_reducible refine T3.ar0 ?_); refine T3.newTu (lit rfl) ?_; intro _ _ _ _; (with_reducible refine T3.ar1 ?_; refine T3.calln ?_ rfl); refine T3.nG (by assumption) (by kernel_rfl) rfl ?_; refine T3.cw0 (by assumption) rfl ?_; (with_reducible refine T3.ar1 ?_); refine T3.cstr ?_; intro _; (with_reducible refine T3.ar0 ?_)
    rename_i al P7 l7 hal kz
    refine T3.fr0 (law_sign_ (ch := 99) kf (hd.le (lit rfl)) (by decide)) ?_ (fun _ _ _ q => q.2)
    rintro _ P8 l8 ⟨hc, _⟩
    obtain ⟨xc, rfl⟩ := hc.ref
    (with_reducible refine T3.ar0 ?_); refine T3.newTu (lit rfl) ?_; intro _ _ _ _; (with_reducible refine T3.aName ?_); refine T3.st rfl ?_ (by kernel_rfl); (with_reducible refine Nx.nx ?_; refine T3.ss1 ?_; refine T3.sIf ?_; refine T3.isCmp ?_ rfl); refine T3.nL (by kernel_rfl) rfl ?_; refine T3.nL (by kernel_rfl) rfl ?_; (with_reducible refine T3.iEq ?_; refine T3.truB ?_)
    rename_i ct P9 l9 hct
    have htr : TreeV P9 (.ref ct) (wrapN (i + 1) t0) := ⟨ct, _, al, xc, rfl, hct, ⟨al, _, y, xb, rfl, (hal.le l8).le l9, (((hty.le l6).le l7).le l8).le l9, ((hb.le l7).le l8).le l9⟩, hc.le l9⟩
    have hD9 : DefF P9 D fs := (((hD.le l6).le l7).le l8).le l9
    by_cases hcut : i = 6 + r2
    · refine yes (by simp; omega) ?_
      (with_reducible refine T3.ss1 ?_); refine T3.sAsg ?_ rfl rfl rfl; (with_reducible refine T3.calln ?_ rfl); refine T3.nG (by assumption) (by kernel_rfl) rfl ?_; refine T3.cw0 (by assumption) rfl ?_; (with_reducible refine T3.ar1 ?_); refine T3.nL (by kernel_rfl) rfl ?_; (with_reducible refine T3.ar1 ?_); refine T3.nL (by kernel_rfl) rfl ?_; (with_reducible refine T3.ar0 ?_)
      refine e0x3 (wr.lo (by omega)) ?_; rintro hD0 hl0 hR0
      have hws := wrap_sz t0 (i + 1)
      have hs1 := b.sz
      have hs2 := b.ht
      have hnd := wrap_need (t := t0) (fun p => by have := b.need 0 p; exact this) i
      have hR1 : Rd D 0 (.row []) (40 :: (T ++ [124, 98, 41, 99])) (wrapN (i + 1) t0) := wrap_rd (by decide) (hR0 1 (by omega))
      refine T3.frMd (pre := [_]) (σ₁ := [_]) (post := vs) (heard_ok (t := wrapN (i + 1) t0) kf kg (hd.le (by omega)) (by simp; omega) hR1 .choN (List.append_nil _).symm (hD9.ok hkd) (by omega) (by omega)) ?_
      rintro v P10 _ l10 ⟨hv10, rfl⟩
      simp only [List.cons_append, List.nil_append, List.append_nil]
      (with_reducible refine T3.aSub ?_); refine T3.nL (by kernel_rfl) rfl ?_; refine T3.cstr ?_; intro _
      rw [show Str.ofString "D" = S [68] from rfl]
      refine T3.dSet (pre := [_]) (by omega) ?_
      simp only [List.cons_append, List.nil_append, List.append_nil]
      (with_reducible refine Nx.nx ?_; refine T3.ss1 ?_); refine T3.sAsg ?_ rfl rfl rfl; refine T3.cstr ?_; intro _; (with_reducible refine T3.aName ?_); refine T3.st rfl ?_ (by kernel_rfl); (with_reducible refine Nx.nx ?_; refine T3.ss0 ?_; refine Nx.nx ?_; refine T3.ss0 ?_)
      have hsl := stored_len fs (S [68]) v
      refine i7x7 _ [123, 68, 125] _ _ ct _ vs rfl (by repeat (first | exact Has.nil | refine Has.cons rfl ?_)) (htr.le l10) hv (by omega) ((hD9.le l10).add hv10) ⟨fun h => by omega, fun _ => ⟨by simp, fun dd hdd => ?_⟩, by simp⟩
      have hsg : Rd (([68], wrapN (i + 1) t0) :: D) dd .sg [123, 68, 125] (wrapN (i + 1) t0) := .dfn (w := [68]) (by rw [List.lookup_cons, beq_self_eq_true]) ⟨by decide, by decide, by decide⟩
      have := hsg.row1 [] (by simp)
      simpa [loops] using this
    · refine no (by simp; omega) ?_
      (with_reducible refine T3.ss0 ?_; refine Nx.nx ?_; refine T3.ss0 ?_)
      refine i7x7 _ (40 :: (T ++ [124, 98, 41, 99])) D fs ct kn vs rfl (by repeat (first | exact Has.nil | refine Has.cons rfl ?_)) htr hv (by omega) hD9 ⟨fun h => ?_, fun h => ?_, by simp⟩
      · refine e0x3 (wr.lo (by omega)) ?_; rintro hD0 hl0 hR0
        exact i0x3 hD0 (by simp; omega) (fun dd hdd => wrap_rd (by omega) (hR0 (dd + 1) (by omega)))
      · obtain ⟨hl0, hR0⟩ := wr.hi (by omega)
        exact ⟨by simp; omega, fun dd hdd => wrap_rd (by omega) (hR0 (dd + 1) (by omega))⟩
  · rintro P5 _ l5 hqa; refine e7x7 hqa ?_; clear hqa; rintro m T D fs y k vs hra hm hty hv hfs hD wr; subst hra
    refine T3.forget hm ?_
    (with_reducible refine T3.ss0 ?_; refine Nx.nx ?_; refine T3.ss1 ?_; refine T3.sRet ?_; refine T3.tup ?_ rfl; refine T3.ar1 ?_); refine T3.nL (by kernel_rfl) rfl ?_; (with_reducible refine T3.ar1 ?_); refine T3.nL (by kernel_rfl) rfl ?_; (with_reducible refine T3.ar1 ?_); refine T3.nL (by kernel_rfl) rfl ?_; (with_reducible refine T3.ar0 ?_); refine T3.newTu (lit rfl) ?_; intro _ _ _ _; (with_reducible refine Nx.ret ?_)
    obtain ⟨hl0, hR0⟩ := wr.hi (by omega)
    have hws := wrap_sz t0 (17 + r)
    have hs1 := b.sz
    have hs2 := b.ht
    exact Bk.mk (i9x8 _ T (wrapN (17 + r) t0) D fs k y kd vs rfl rfl (by assumption) (by (with_reducible (apply TreeV.le); (focus assumption); assumption)) hkd (hD.le (by assumption)) ⟨hR0 0 (by omega), wr.ne, by omega, wrap_abc b.abc _, by omega, by omega⟩ hv)
end
/-! what is told, as data -/
noncomputable def trD : Tr → PyData
  | .chr c => .tuple [.str (Str.ofString "chars"), .tuple [.tuple [.int c, .int c]]]
  | .emp => .tuple [.str (Str.ofString "empty")]
  | .cat l r => .tuple [.str (Str.ofString "cat"), trD l, trD r]
  | .alt l r => .tuple [.str (Str.ofString "alt"), trD l, trD r]
  | .loop k b => .tuple [.str k.nm, trD b]
theorem TreeV.da {P : Vw} : ∀ {t : Tr} {v : Value}, TreeV P v t → DaP P v (trD t)
  | .chr _, _, ⟨_, _, _, e, h, h2⟩ => by subst e; exact DaP.tuple h (.cons .str (.cons h2.da .nil))
  | .emp, _, ⟨_, _, e, h⟩ => by subst e; exact DaP.tuple h (.cons .str .nil)
  | .cat _ _, _, ⟨_, _, _, _, e, h, h1, h2⟩ => by subst e; exact DaP.tuple h (.cons .str (.cons (TreeV.da h1) (.cons (TreeV.da h2) .nil)))
  | .alt _ _, _, ⟨_, _, _, _, e, h, h1, h2⟩ => by subst e; exact DaP.tuple h (.cons .str (.cons (TreeV.da h1) (.cons (TreeV.da h2) .nil)))
  | .loop _ _, _, ⟨_, _, _, e, h, h1⟩ => by subst e; exact DaP.tuple h (.cons .str (.cons (TreeV.da h1) .nil))
theorem lay_cons {d : PyData} {ds : List PyData} (h : d.canLay0 = true) (g : PyData.canLayAll0 ds = true) : PyData.canLayAll0 (d :: ds) = true := by rw [PyData.canLayAll0, h, g]; rfl
theorem trD_lay : ∀ t : Tr, (trD t).canLay0 = true ∧ (trD t).depth ≤ t.ht + 2
  | .chr c => ⟨lay_cons (by kernel_rfl) (lay_cons rfl rfl), by simp [trD, PyData.depth, PyData.depthAll, Tr.ht]⟩
  | .emp => ⟨lay_cons (by kernel_rfl) rfl, by simp [trD, PyData.depth, PyData.depthAll, Tr.ht]⟩
  | .cat l r => by
    have h1 := trD_lay l
    have h2 := trD_lay r
    refine ⟨lay_cons (by kernel_rfl) (lay_cons h1.1 (lay_cons h2.1 rfl)), ?_⟩
    show max 0 (max (trD l).depth (max (trD r).depth 0)) + 1 ≤ max l.ht r.ht + 1 + 2
    rw [Nat.zero_max, Nat.max_zero]
    exact Nat.succ_le_succ (Nat.max_le.mpr ⟨Nat.le_trans h1.2 (Nat.add_le_add_right (Nat.le_max_left ..) 2), Nat.le_trans h2.2 (Nat.add_le_add_right (Nat.le_max_right ..) 2)⟩)
  | .alt l r => by
    have h1 := trD_lay l
    have h2 := trD_lay r
    refine ⟨lay_cons (by kernel_rfl) (lay_cons h1.1 (lay_cons h2.1 rfl)), ?_⟩
    show max 0 (max (trD l).depth (max (trD r).depth 0)) + 1 ≤ max l.ht r.ht + 1 + 2
    rw [Nat.zero_max, Nat.max_zero]
    exact Nat.succ_le_succ (Nat.max_le.mpr ⟨Nat.le_trans h1.2 (Nat.add_le_add_right (Nat.le_max_left ..) 2), Nat.le_trans h2.2 (Nat.add_le_add_right (Nat.le_max_right ..) 2)⟩)
  | .loop k b => by
    have h1 := trD_lay b
    refine ⟨lay_cons (by cases k <;> kernel_rfl) (lay_cons h1.1 rfl), ?_⟩
    show max 0 (max (trD b).depth 0) + 1 ≤ b.ht + 1 + 2
    rw [Nat.zero_max, Nat.max_zero]
    exact Nat.succ_le_succ h1.2
section
variable {c : Cx} {A : Around} {P : Vw} {σ : St} {E : Value → Vw → St → Prop} {Q : Value → Vw → St → Prop} {v w : Value} {d : PyData} {t : Tr} {b : Bool}
theorem T3.daNeS {n : Nat} (hv : DaP P v d) (hw : DaP P w d) (hl : d.canLay0 = true) (hd : d.depth ≤ n) (hu : A.units + n < cLine) (h : Q (.bool false) P σ) : T3 c A (compareOp .NotEq v w) P σ Q E := fun τ s g => by
  obtain ⟨_, r1⟩ := hv s.heap g.ok.per
  obtain ⟨_, r2⟩ := hw s.heap g.ok.per
  refine SeqAt.compareNe_reads r1 r2 hl hl (by omega) ?_
  rw [SeqAt.eqv_refl d hl]
  exact en g h
theorem T3.daEqS {n : Nat} (hv : DaP P v d) (hw : DaP P w d) (hl : d.canLay0 = true) (hd : d.depth ≤ n) (hu : A.units + n < cLine) (h : Q (.bool true) P σ) : T3 c A (compareOp .Eq v w) P σ Q E := fun τ s g => by
  obtain ⟨_, r1⟩ := hv s.heap g.ok.per
  obtain ⟨_, r2⟩ := hw s.heap g.ok.per
  refine SeqAt.compareEq_reads r1 r2 hl hl (by omega) ?_
  rw [SeqAt.eqv_refl d hl]
  exact en g h
theorem T3.uNot (h : Q (.bool (!b)) P σ) : T3 c A (unaryOp .Not (.bool b)) P σ Q E := fun τ s g => not_of (wpAny_truthy_bool (en g h))
noncomputable def tolD (bg : Bool) (t : Tr) : PyData := .tuple [.bool bg, trD t, .none]
theorem tol_da {a x : Addr} {bg : Bool} (h : TuP P a [.bool bg, .ref x, .none]) (hx : TreeV P (.ref x) t) : DaP P (.ref a) (tolD bg t) := DaP.tuple h (.cons .bool (.cons hx.da (.cons .none .nil)))
theorem tol_lay (bg : Bool) (t : Tr) : (tolD bg t).canLay0 = true ∧ (tolD bg t).depth ≤ t.ht + 3 := by
  have h := trD_lay t
  refine ⟨lay_cons rfl (lay_cons h.1 rfl), ?_⟩
  exact Nat.succ_le_succ (Nat.max_le.mpr ⟨Nat.zero_le _, Nat.max_le.mpr ⟨h.2, Nat.zero_le _⟩⟩)
end
/-! the bases -/
theorem pred20 (n : Nat) : (n - 1) / 20 ≤ n / 20 := Nat.div_le_div_right (Nat.sub_le ..)
theorem base_ok (w : Nat) (hw : w < 4) : Base (baseT w).2 ∧ (baseT w).1.length ≤ 8 ∧ 0 < (baseT w).1.length ∧ (∀ dd, dd + 1 ≤ 20 → Rd [] dd (.row []) (baseT w).1 (baseT w).2) ∧ (∀ dd, dd ≤ 1 → Rd [] dd .sg (if w % 2 = 1 then 40 :: ((baseT w).1 ++ [41]) else (baseT w).1) (baseT w).2) := by
  have pa : ∀ dd, Rd [] dd .sg [97] (.chr 97) := fun dd => .chr ⟨by decide, by decide⟩
  have pq : ∀ dd, Rd [] dd .sg [34, 97, 98, 34] (.cat (.chr 97) (.chr 98)) := fun dd => .quo ⟨by decide, by decide, by decide, by decide⟩ ⟨by decide, by decide, by decide, by decide⟩
  have ra : ∀ dd, Rd [] dd (.row []) [97] (.chr 97) := fun dd => by simpa [loops] using (pa dd).row1 [] (by simp)
  have pe : ∀ dd, dd + 1 ≤ 20 → Rd [] dd .sg [40, 97, 124, 41] (.alt (.chr 97) .emp) := fun dd hd => .par (l1 := [97]) (l2 := [124]) (by omega) (ra _) (.choC (l1 := []) (l2 := []) .rowN .choN)
  have rq : ∀ dd, Rd [] dd (.row []) [34, 97, 98, 34] (.cat (.chr 97) (.chr 98)) := fun dd => by simpa [loops] using (pq dd).row1 [] (by simp)
  have rs : ∀ dd, Rd [] dd (.row []) [34, 97, 98, 34, 42] (.loop .star (.cat (.chr 97) (.chr 98))) := fun dd => (pq dd).row1 [.star] (by simp)
  rcases w with _ | _ | _ | _ | w
  · exact i0x5 ⟨.inl rfl, by decide, by decide, fun n p => Nat.le_trans (pred20 n) (Nat.le_add_left ..)⟩ (by decide) (by decide) (fun dd _ => ra dd) (fun dd _ => pa dd)
  · refine i0x5 ⟨⟨.inl rfl, .inr (.inl rfl)⟩, by decide, by decide, fun n p => ?_⟩ (by decide) (by decide) (fun dd _ => rs dd) (fun dd hd => .par (l1 := [34, 97, 98, 34, 42]) (l2 := []) (by omega) (rs _) .choN)
    exact Nat.add_le_add_right (lit rfl : 1 ≤ 2) (n / 20)
  · refine i0x5 ⟨⟨.inl rfl, trivial⟩, by decide, by decide, fun n p => ?_⟩ (by decide) (by decide) (fun dd hd => (show Rd [] dd (.row []) [40, 97, 124, 41] (.alt (.chr 97) .emp) by simpa [loops] using (pe dd hd).row1 [] (by simp))) (fun dd hd => pe dd (by omega))
    show max ((0 - 1) / 20) (1 + (0 - 1) / 20) + (if 1 ≤ p then 1 else 0) + (n - 1) / 20 ≤ _
    exact Nat.add_le_add (by split <;> decide) (pred20 n)
  · refine i0x5 ⟨⟨.inl rfl, .inr (.inl rfl)⟩, by decide, by decide, fun n p => ?_⟩ (by decide) (by decide) (fun dd _ => rq dd) (fun dd hd => .par (l1 := [34, 97, 98, 34]) (l2 := []) (by omega) (rq _) .choN)
    show max ((0 - 1) / 20) ((0 - 1) / 20) + (if 2 ≤ p then 1 else 0) + (n - 1) / 20 ≤ _
    exact Nat.add_le_add (by split <;> decide) (pred20 n)
  · omega
theorem Rd.sg94 {D : List (List Nat × Tr)} {d : Nat} {l : List Nat} {t : Tr} (h : Rd D d .sg l t) : ∃ ch r, l = ch :: r ∧ ch ≠ 94 := by
  cases h with
  | chr h => exact ⟨_, _, rfl, fun e => h.2 (by subst e; decide)⟩
  | quo ha hb => exact ⟨_, _, rfl, by decide⟩
  | dfn h hw => exact ⟨_, _, rfl, by decide⟩
  | par hd h1 h2 => exact ⟨_, _, rfl, by decide⟩
theorem Rd.row94 {D : List (List Nat × Tr)} {d : Nat} {l : List Nat} {t : Tr} {acc : List Tr} (h : Rd D d (.row acc) l t) (hne : 0 < l.length) : ∃ ch r, l = ch :: r ∧ ch ≠ 94 := by
  cases h with
  | rowN => simp at hne
  | rowC h1 hk hn h2 =>
    refine e2x2 (h1.sg94) ?_; rintro ch r hra hc; subst hra
    exact i2x2 ch _ rfl hc
theorem need_pk (t : Tr) : need t (if isPk .alt t = true then 0 else inn .alt) = need t 0 := by
  cases t with
  | cat l r => exact need_cat l r 1
  | _ => rfl
/-- a longer text -/
theorem longer_ok {t : Tr} {s : List Nat} (h : ChoS 0 s t) (hn : need t 0 ≤ 20) : ∃ l1 l2 ta t2, 120 :: 124 :: s = l1 ++ l2 ∧ Rd [] 0 (.row []) l1 ta ∧ Rd [] 0 (.cho ta) l2 t2 ∧ need t2 0 ≤ 20 ∧ t2.sz = t.sz + 2 ∧ t2.ht ≤ t2.sz := by
  refine e2x3 (h) ?_; rintro q qs h1 h2 h3
  have rx : Rd [] 0 (.row []) [120] (.chr 120) := by simpa [loops] using (Rd.chr (D := []) (d := 0) (ch := 120) ⟨by decide, by decide⟩).row1 [] (by simp)
  have hts : ∀ t : Tr, t.ht ≤ t.sz := by
    intro t
    induction t with
    | chr _ => exact Nat.le_refl _
    | emp => exact Nat.le_refl _
    | cat l r a b => simp only [Tr.ht, Tr.sz]; omega
    | alt l r a b => simp only [Tr.ht, Tr.sz]; omega
    | loop k b a => simp only [Tr.ht, Tr.sz]; omega
  have fold : ∀ (qs : List Tr) (acc : Tr), isPk .alt acc = true → need acc 0 ≤ 20 → (∀ q ∈ qs, need q 1 ≤ 20) → need (qs.foldl .alt acc) 0 ≤ 20 := by
    intro qs
    induction qs with
    | nil => exact fun acc _ h _ => h
    | cons q qs ih =>
      intro acc ha h hq
      refine ih (.alt acc q) rfl ?_ fun x hx => hq x (.tail _ hx)
      have h2 := hq q (.head _)
      show max (need2 acc 0 (if isPk .alt acc then 0 else 1)) (need q 1) + 0 + 0 ≤ 20
      rw [ha]
      have h3 : need2 acc 0 0 ≤ 20 := h
      show max (need2 acc 0 0) (need q 1) + 0 + 0 ≤ 20
      omega
  have szf : ∀ (qs : List Tr) (a b : Tr) (k : Nat), a.sz = b.sz + k → (qs.foldl .alt a).sz = (qs.foldl .alt b).sz + k := by
    intro qs
    induction qs with
    | nil => exact fun a b k h => h
    | cons q qs ih => exact fun a b k h => ih (.alt a q) (.alt b q) k (by simp only [Tr.sz]; omega)
  have allq : ∀ q' ∈ q :: qs, need q' 1 ≤ 20 := fun q' hq' => by
    have := (spl_max .alt t).1 q' (by rw [h1]; exact hq')
    rw [need_pk] at this
    exact Nat.le_trans this hn
  refine i4x6 [120] (124 :: s) (.chr 120) (qs.foldl .alt (.alt (.chr 120) q)) rfl rx ?_ ?_ ?_ (hts _)
  · rw [h2]
    exact .choC (h3 q (.head _)) (cho_of qs _ fun x hx => h3 x (.tail _ hx))
  · refine fold qs _ rfl ?_ fun x hx => allq x (.tail _ hx)
    have := allq q (.head _)
    show max 0 (need q 1) + 0 + 0 ≤ 20
    omega
  · refine e2x2 (alt_spl t) ?_; rintro q' qs' h4 h5
    rw [h1] at h4
    cases h4
    have := szf qs (.alt (.chr 120) q) q 2 (by simp only [Tr.sz]; omega)
    rw [this, h5]
section
variable {c : Cx} {A : Around} {P : Vw} {σ vs : St} {d kd y L : Addr} {T : List Nat} {t : Tr} {cdv : Value} {kt : Tok} {m : Lo} {fs : Fs} {D : List (List Nat × Tr)}
noncomputable abbrev eW (L : Addr) (cdv : Value) : Env := mkE (fdS (topS 79)) (Str.ofString "law") L 1061 cdv
theorem pat_text {T : List Nat} {ch : Nat} {r : List Nat} (e : T = ch :: r) (hc : ch ≠ 94) : (sg (120 :: 32 :: (T ++ [32, 121])) 2 == [94]) = false ∧ At (120 :: 32 :: (T ++ [32, 121])) 2 (T ++ []) ∧ sg (120 :: 32 :: (T ++ [32, 121])) (2 + (T.length + 0)) = [32] := by
  refine i0x3 ?_ ⟨[32, 121], by simp⟩ ?_
  · rw [sg_some (ch := ch) (by subst e; rfl)]
    simpa using hc
  · refine sg_some ?_
    rw [show 2 + (T.length + 0) = (T.length + 1) + 1 by omega, List.getElem?_cons_succ, List.getElem?_cons_succ, List.getElem?_append_right (Nat.le_refl _), Nat.sub_self]
    rfl
theorem law_tail_bad (kf : KF c) (kg : KG c) (kx : KX c) (hr : Room (A.deeper (eW L cdv)) 300) (hfr : A.frames = some []) (hm : Has m [(Str.ofString "known", .ref kd), (Str.ofString "text", .str (S T) kt), (Str.ofString "tree", .ref y)]) (ht : TreeV P (.ref y) t) (hkd : kd ≠ sysModules) (hD : DefF P D fs) (hg : Good D T t) (hn : 20 < need t 0) :
    T3 c (A.deeper (eW L cdv)) (execs ((fdB (topS 79)).drop 5) (eW L cdv)) P ((L, NsP m) :: (kd, IsD c fs) :: vs) (Bk L fun v P' σ' => v = .bool true) NoE := by
  have hfr2 : (A.deeper (eW L cdv)).frames = some [eW L cdv] := Around.frames_deeper hfr
  have hF : ∀ (m : Lo) (vs : St), FrIn [eW L cdv] ((L, NsP m) :: vs) := fun m vs env he => by
    obtain rfl : env = eW L cdv := by simpa using he
    exact ⟨fun h => absurd ((show (fdS (topS 79)).kind = .function by kernel_rfl).symm.trans h) (by decide), i2x2 L m rfl (.head _)⟩
  have hsz := hg.sz
  have hht := hg.ht
  have hlen := hg.len
  refine T3.forget hm ?_
  refine T3.ss1 (T3.sSw2 hr.no ?_ rfl rfl rfl)
  (with_reducible refine T3.calln ?_ rfl); refine T3.nG (by assumption) (by kernel_rfl) rfl ?_; refine T3.cw0 (by assumption) rfl ?_; (with_reducible refine T3.ar1 ?_); refine T3.nL (by kernel_rfl) rfl ?_; (with_reducible refine T3.ar1 ?_); refine T3.nL (by kernel_rfl) rfl ?_; (with_reducible refine T3.ar0 ?_)
  refine T3.perm (List.Perm.swap ..) ?_
  refine (heard_bad (δ := [(kd, IsD c fs)]) kf kg kx (hr.le (by omega)) (by omega) hg.rd .choN (List.append_nil T).symm (hD.ok hkd) hn (by omega) hfr2 (hF _ vs)).conseq ?_
  rintro _ P1 _ l1 ⟨⟨k1, rfl⟩, rfl⟩
  refine T3.perm (List.Perm.swap ..) ?_
  (with_reducible refine T3.calln ?_ rfl); refine T3.nG (by assumption) (by kernel_rfl) rfl ?_; refine T3.cw0 (by assumption) rfl ?_; (with_reducible refine T3.ar1 ?_); refine T3.nL (by kernel_rfl) rfl ?_; (with_reducible refine T3.ar1 ?_); refine T3.cint ?_; intro _; (with_reducible refine T3.ar0 ?_)
  refine T3.fr0 (law_needed_ kf t.sz t (Nat.le_refl _) (p := 0) (tp := _) (hr.le (by omega)) (by omega) (ht.le l1)) ?_ (fun _ _ _ q => q.2)
  rintro _ P2 l2 ⟨⟨k2, rfl⟩, _⟩
  intro P3 l3
  refine T3.st rfl ?_ (by kernel_rfl); refine T3.st rfl ?_ (by kernel_rfl); (with_reducible refine Nx.nx ?_; refine T3.ss1 ?_); refine T3.sAsg ?_ rfl rfl rfl; (with_reducible refine T3.calln ?_ rfl); refine T3.nG (by assumption) (by kernel_rfl) rfl ?_; refine T3.cw0 (by assumption) rfl ?_; (with_reducible refine T3.ar1 ?_; refine T3.binop ?_; refine T3.binop ?_); refine T3.cstr ?_; intro _; refine T3.nL (by kernel_rfl) rfl ?_
  refine T3.sAdd (by rw [sizeLine_eq, S_len]; show 2 + _ ≤ _; omega) fun _ => ?_
  rw [show Str.ofString "x " ++ S T = S (120 :: 32 :: T) from S_add [120, 32] T]
  refine T3.cstr ?_; intro _
  refine T3.sAdd (by rw [sizeLine_eq, S_len]; show _ + 2 ≤ _; simp; omega) fun _ => ?_
  rw [show S (120 :: 32 :: T) ++ Str.ofString " y" = S (120 :: 32 :: (T ++ [32, 121])) from S_add (120 :: 32 :: T) [32, 121]]
  (with_reducible refine T3.ar1 ?_); refine T3.cint ?_; intro _; (with_reducible refine T3.ar1 ?_); refine T3.nL (by kernel_rfl) rfl ?_; (with_reducible refine T3.ar0 ?_)
  refine e2x2 (hg.rd.row94 hg.ne) ?_; rintro ch r hT hch
  refine e0x3 (pat_text hT hch) ?_; rintro e1 e2 e3
  have hne := hg.ne
  refine T3.perm (List.Perm.swap ..) ?_
  refine (lawpat_bad (p := 2) (q := 2) (bg := false) (l2 := []) (δ := [(kd, IsD c fs)]) kf kg kx (hr.le (by omega)) (by simp; omega) hg.rd .choN e1 rfl e2 (by simp; omega) (by simpa using e3) (((hD.le l1).le l2).le l3 |>.ok hkd) (by omega) hn (by simp) (fun i hi => by rcases i with _ | _ | i <;> first | (simp; done) | omega) hfr2 (hF _ vs)).conseq ?_
  rintro _ P4 _ l4 ⟨⟨k4, rfl⟩, rfl⟩
  refine T3.perm (List.Perm.swap ..) ?_
  (with_reducible refine T3.aName ?_); refine T3.st rfl ?_ (by kernel_rfl); (with_reducible refine Nx.nx ?_; refine T3.ss1 ?_; refine T3.sIf ?_; refine T3.isCmp ?_ rfl); refine T3.nL (by kernel_rfl) rfl ?_; refine T3.cint ?_; intro _; (with_reducible refine T3.iGt ?_; refine T3.truB ?_)
  refine yes (by simp; omega) ?_
  (with_reducible refine T3.ss1 ?_; refine T3.sRet ?_; refine T3.boolE2 ?_; refine T3.boolAnd ?_; refine T3.cmp1 ?_ rfl); refine T3.nL (by kernel_rfl) rfl ?_; refine T3.cint ?_; intro _; (with_reducible refine T3.iEq ?_; refine T3.truB ?_; refine yes rfl ?_; refine T3.boolLast ?_; refine T3.cmp1 ?_ rfl); refine T3.nL (by kernel_rfl) rfl ?_; refine T3.cint ?_; intro _; (with_reducible refine T3.iEq ?_; refine Nx.ret ?_; refine Nx.ret ?_)
  exact Bk.mk rfl
end
section
variable {c : Cx} {A : Around} {P : Vw} {σ vs : St} {d kd y L : Addr} {T : List Nat} {t : Tr} {cdv : Value} {kt : Tok} {m : Lo} {fs : Fs} {D : List (List Nat × Tr)}
theorem Node.cls' {P : Vw} {x : Addr} (h : Node P (.ref x) t) : ∃ fs, InP P x t.cls fs ∧ clsTab.contains t.cls = true := let ⟨fs, h1, _⟩ := h.inst; ⟨fs, h1, t.inTab.1⟩
theorem asc128 : ∀ x ∈ [40, 41, 42, 43, 63, 97, 98, 99, 124], x < 128 := by decide
theorem brk_ge (b : Prop) [Decidable b] (s : List Nat) : s.length ≤ (brk b s).length := by unfold brk; split <;> simp <;> omega
theorem addL_ge : ∀ (a : List LK) (s : List Nat) (i : Nat), s.length ≤ (addL s i a).length
  | [], _, _ => Nat.le_refl _
  | k :: a, s, i => by
    have h1 := addL_ge a (brk (0 < i ∧ i % 20 = 0) s ++ [k.sign]) (i + 1)
    have h2 := brk_ge (0 < i ∧ i % 20 = 0) s
    rw [addL]
    rw [List.length_append] at h1
    omega
theorem sh_pos : ∀ (t : Tr) (a : List LK) (p : Nat), 0 < (sh t a p).length
  | .chr c, a, _ => by have := addL_ge a [c] 0; simp only [sh, List.length_singleton] at *; omega
  | .emp, a, _ => by have := addL_ge a [40, 41] 0; simp only [sh, List.length_cons, List.length_nil] at *; omega
  | .cat l r, a, p => by
    have h2 := sh_pos r [] 2
    have h3 := brk_ge (2 ≤ p) (sh l [] (if isPk .cat l then 0 else 2) ++ sh r [] 2)
    have h4 := addL_ge a (brk (2 ≤ p) (sh l [] (if isPk .cat l then 0 else 2) ++ sh r [] 2)) 0
    simp only [sh, List.length_append] at *
    omega
  | .alt l r, a, p => by
    have h2 := sh_pos r [] 1
    have h3 := brk_ge (1 ≤ p) (sh l [] (if isPk .alt l then 0 else 1) ++ 124 :: sh r [] 1)
    have h4 := addL_ge a (brk (1 ≤ p) (sh l [] (if isPk .alt l then 0 else 1) ++ 124 :: sh r [] 1)) 0
    simp only [sh, List.length_append, List.length_cons] at *
    omega
  | .loop k b, a, _ => sh_pos b (k :: a) 2
theorem shown_ne (t : Tr) (h : Abc t) : ∃ ch r, sh t [] 0 = ch :: r := by
  have := sh_pos t [] 0
  cases e : sh t [] 0 with
  | nil => rw [e] at this; simp at this
  | cons ch r => exact ⟨ch, r, rfl⟩
theorem law_tail_good (kf : KF c) (kg : KG c) (hr : Room (A.deeper (eW L cdv)) 300) (hm : Has m [(Str.ofString "known", .ref kd), (Str.ofString "text", .str (S T) kt), (Str.ofString "tree", .ref y)]) (ht : TreeV P (.ref y) t) (hkd : kd ≠ sysModules) (hD : DefF P D fs) (hg : Good D T t) (hn : need t 0 ≤ 20) :
    T3 c (A.deeper (eW L cdv)) (execs ((fdB (topS 79)).drop 5) (eW L cdv)) P ((L, NsP m) :: (kd, IsD c fs) :: vs) (Bk L fun v P' σ' => v = .bool true) NoE := by
  have hsz := hg.sz
  have hht := hg.ht
  have hlen := hg.len
  have hu : (A.deeper (eW L cdv)).units + 200 < cLine := by have := hr.2.1; omega
  refine T3.forget hm ?_
  refine T3.ss1 (T3.sSw2 hr.no ?_ rfl rfl rfl)
  (with_reducible refine T3.calln ?_ rfl); refine T3.nG (by assumption) (by kernel_rfl) rfl ?_; refine T3.cw0 (by assumption) rfl ?_; (with_reducible refine T3.ar1 ?_); refine T3.nL (by kernel_rfl) rfl ?_; (with_reducible refine T3.ar1 ?_); refine T3.nL (by kernel_rfl) rfl ?_; (with_reducible refine T3.ar0 ?_)
  refine T3.frMd (pre := [_]) (σ₁ := [_]) (post := vs) (heard_ok kf kg (hr.le (by omega)) (by omega) hg.rd .choN (List.append_nil T).symm (hD.ok hkd) hn (by omega)) ?_
  rintro _ P1 _ l1 ⟨hv, rfl⟩
  obtain ⟨nv, rfl⟩ := hv.ref
  simp only [List.cons_append, List.nil_append, List.append_nil]
  (with_reducible refine T3.calln ?_ rfl); refine T3.nG (by assumption) (by kernel_rfl) rfl ?_; refine T3.cw0 (by assumption) rfl ?_; (with_reducible refine T3.ar1 ?_); refine T3.nL (by kernel_rfl) rfl ?_; (with_reducible refine T3.ar1 ?_); refine T3.cint ?_; intro _; (with_reducible refine T3.ar0 ?_)
  refine T3.fr0 (law_needed_ kf t.sz t (Nat.le_refl _) (p := 0) (tp := _) (hr.le (by omega)) (by omega) (ht.le l1)) ?_ (fun _ _ _ q => q.2)
  rintro _ P2 l2 ⟨⟨k2, rfl⟩, _⟩
  intro P3 l3
  refine T3.st rfl ?_ (by kernel_rfl); refine T3.st rfl ?_ (by kernel_rfl); (with_reducible refine Nx.nx ?_; refine T3.ss1 ?_); refine T3.sAsg ?_ rfl rfl rfl; (with_reducible refine T3.calln ?_ rfl); refine T3.nG (by assumption) (by kernel_rfl) rfl ?_; refine T3.cw0 (by assumption) rfl ?_; (with_reducible refine T3.ar1 ?_; refine T3.binop ?_; refine T3.binop ?_); refine T3.cstr ?_; intro _; refine T3.nL (by kernel_rfl) rfl ?_
  refine T3.sAdd (by rw [sizeLine_eq, S_len]; show 2 + _ ≤ _; omega) fun _ => ?_
  rw [show Str.ofString "x " ++ S T = S (120 :: 32 :: T) from S_add [120, 32] T]
  refine T3.cstr ?_; intro _
  refine T3.sAdd (by rw [sizeLine_eq, S_len]; show _ + 2 ≤ _; simp; omega) fun _ => ?_
  rw [show S (120 :: 32 :: T) ++ Str.ofString " y" = S (120 :: 32 :: (T ++ [32, 121])) from S_add (120 :: 32 :: T) [32, 121]]
  (with_reducible refine T3.ar1 ?_); refine T3.cint ?_; intro _; (with_reducible refine T3.ar1 ?_); refine T3.nL (by kernel_rfl) rfl ?_; (with_reducible refine T3.ar0 ?_)
  refine e2x2 (hg.rd.row94 hg.ne) ?_; rintro ch r hT hch
  refine e0x3 (pat_text hT hch) ?_; rintro e1 e2 e3
  have hne := hg.ne
  refine T3.frMd (pre := [_]) (σ₁ := [_]) (post := vs) (lawpat_ok (p := 2) (q := 2) (bg := false) (l2 := []) kf kg (hr.le (by omega)) (by simp; omega) hg.rd .choN e1 rfl e2 (by simp; omega) (by simpa using e3) (((hD.le l1).le l2).le l3 |>.ok hkd) (by omega) hn) ?_
  rintro _ P4 _ l4 hqa; obtain ⟨hqb, rfl⟩ := hqa; refine e4x4 hqb ?_; clear hqb; rintro wa wp wb wk hra hw1 hw2 hw3; subst hra
  have hn4 : Node P4 (.ref nv) t := ((hv.le l2).le l3).le l4
  have ht4 : TreeV P4 (.ref y) t := (((ht.le l1).le l2).le l3).le l4
  refine e1x2 (hn4.cls') ?_; rintro nfs hni hnc
  simp only [List.cons_append, List.nil_append, List.append_nil]
  (with_reducible refine T3.aName ?_); refine T3.st rfl ?_ (by kernel_rfl); (with_reducible refine Nx.nx ?_; refine T3.ss1 ?_; refine T3.sIf ?_; refine T3.isCmp ?_ rfl); refine T3.nL (by kernel_rfl) rfl ?_; refine T3.cint ?_; intro _; (with_reducible refine T3.iGt ?_; refine T3.truB ?_)
  refine no (by simp; omega) ?_
  (with_reducible refine T3.ss0 ?_; refine Nx.nx ?_; refine T3.ss1 ?_; refine T3.sIf ?_; refine T3.isBool ?_; refine T3.or1 ?_); refine T3.isT rfl ?_; (with_reducible refine T3.calln ?_ rfl); refine T3.nB (by assumption) (by kernel_rfl) (by boot_by_name) ?_; (with_reducible refine T3.cwB ?_; refine T3.ar1 ?_); refine T3.nL (by kernel_rfl) rfl ?_; (with_reducible refine T3.ar1 ?_); refine T3.nB (by assumption) (by kernel_rfl) (by boot_by_name) ?_; (with_reducible refine T3.ar0 ?_)
  refine T3.isInt kf kg hnc hni ?_
  (with_reducible refine T3.truB ?_; refine no rfl ?_; refine T3.or1 ?_); refine T3.isT rfl ?_; (with_reducible refine T3.calln ?_ rfl); refine T3.nB (by assumption) (by kernel_rfl) (by boot_by_name) ?_; (with_reducible refine T3.cwB ?_; refine T3.ar1 ?_); refine T3.nL (by kernel_rfl) rfl ?_; (with_reducible refine T3.ar1 ?_); refine T3.nB (by assumption) (by kernel_rfl) (by boot_by_name) ?_; (with_reducible refine T3.ar0 ?_)
  refine T3.isIntT hw1 ?_
  (with_reducible refine T3.truB ?_; refine no rfl ?_; refine T3.or1 ?_; refine T3.isCmp ?_ rfl); refine T3.callm ?_ rfl rfl rfl (lit rfl); refine T3.nL (by kernel_rfl) rfl ?_
  refine T3.told kf hn4 ?_
  refine T3.cw10 kf t.inTab.2.2.2 ?_
  refine T3.fr0 (told_ kf t.sz t (Nat.le_refl _) (hr.le (by omega)) (by omega) hn4) ?_ (fun _ _ _ q => q.2)
  rintro _ P5 l5 ⟨hv5, _⟩
  obtain ⟨v5, rfl⟩ := hv5.ref
  refine T3.nL (by kernel_rfl) rfl ?_
  have tl := trD_lay t
  refine T3.daNeS (n := 200) hv5.da (ht4.le l5).da tl.1 (by omega) hu ?_
  (with_reducible refine T3.truB ?_; refine no rfl ?_; refine T3.or0 ?_; refine no rfl ?_; refine T3.ss0 ?_; refine Nx.nx ?_; refine T3.ss1 ?_; refine T3.sIf ?_; refine T3.isBool ?_; refine T3.or1 ?_; refine T3.isCmp ?_ rfl); refine T3.subG ?_ (fun _ _ => rfl); refine T3.nL (by kernel_rfl) rfl ?_; refine T3.cint ?_; intro _; refine T3.gTu (by (with_reducible (apply TuP.le); (focus assumption); assumption)) ?_
  refine T3.tItem (k := 1) (hw1.le l5) rfl rfl (by rw [sizeLine_eq]; simp) ?_
  (with_reducible refine T3.binop ?_); refine T3.cint ?_; intro _; (with_reducible refine T3.calln ?_ rfl); refine T3.nB (by assumption) (by kernel_rfl) (by boot_by_name) ?_; (with_reducible refine T3.cwB ?_; refine T3.ar1 ?_); refine T3.nL (by kernel_rfl) rfl ?_; (with_reducible refine T3.ar0 ?_); refine T3.sLenS (by omega) ?_; intro _; refine T3.iAdd ?_; intro _; (with_reducible refine T3.iNe ?_; refine T3.truB ?_)
  refine no (by simp) ?_
  (with_reducible refine T3.or1 ?_; refine T3.isCmp ?_ rfl); refine T3.callm ?_ rfl rfl rfl (lit rfl); refine T3.subG ?_ (fun _ _ => rfl); refine T3.nL (by kernel_rfl) rfl ?_; refine T3.cint ?_; intro _; refine T3.gTu (by (with_reducible (apply TuP.le); (focus assumption); assumption)) ?_
  refine T3.tItem (k := 0) (hw1.le l5) rfl rfl (by rw [sizeLine_eq]; simp) ?_
  have hw2' := hw2.le l5
  refine T3.mFI (by assumption) (by with_reducible assumption) (by first | assumption | kernel_rfl) rfl (by kernel_rfl) rfl ?_; refine T3.cw10 (by assumption) rfl ?_
  refine T3.fr0 (pattern_told_ kf (hr.le (by omega)) (by omega) hw2' (hw3.le l5)) ?_ (fun _ _ _ q => q.2)
  rintro _ P6 l6 hqa; obtain ⟨hqb, _⟩ := hqa; refine e2x3 hqb ?_; clear hqb; rintro wa2 wx2 hra hw4 hw5; subst hra
  (with_reducible refine T3.tup ?_ rfl; refine T3.ar1 ?_; refine T3.cbool ?_; refine T3.ar1 ?_); refine T3.nL (by kernel_rfl) rfl ?_; (with_reducible refine T3.ar1 ?_; refine T3.cnone ?_; refine T3.ar0 ?_); refine T3.newTu (lit rfl) ?_; intro _ _ _ _
  rename_i tt P7 l7 htt
  have tl2 := tol_lay false t
  refine T3.daNeS (n := 200) ((tol_da hw4 hw5).le l7) (tol_da htt (((ht4.le l5).le l6).le l7)) tl2.1 (by omega) hu ?_
  (with_reducible refine T3.truB ?_; refine no rfl ?_; refine T3.or0 ?_; refine no rfl ?_; refine T3.ss0 ?_; refine Nx.nx ?_; refine T3.ss1 ?_); refine T3.sAsg ?_ rfl rfl rfl; (with_reducible refine T3.calln ?_ rfl); refine T3.nG (by assumption) (by kernel_rfl) rfl ?_; refine T3.cw0 (by assumption) rfl ?_; (with_reducible refine T3.ar1 ?_); refine T3.nL (by kernel_rfl) rfl ?_; (with_reducible refine T3.ar0 ?_)
  have hn7 : Node P7 (.ref nv) t := ((hn4.le l5).le l6).le l7
  have ht7 : TreeV P7 (.ref y) t := ((ht4.le l5).le l6).le l7
  refine T3.fr0 (show_regex_ kf kg hg.abc (hr.le (by omega)) (by omega) hn7) ?_ (fun _ _ _ q => q.2)
  rintro _ P8 l8 ⟨⟨k8, rfl⟩, _⟩
  (with_reducible refine T3.aName ?_); refine T3.st rfl ?_ (by kernel_rfl); (with_reducible refine Nx.nx ?_; refine T3.ss1 ?_; refine T3.sIf ?_; refine T3.isBool ?_; refine T3.or1 ?_; refine T3.isNot ?_); refine T3.isT rfl ?_; (with_reducible refine T3.calln ?_ rfl); refine T3.nG (by assumption) (by kernel_rfl) rfl ?_; refine T3.cw0 (by assumption) rfl ?_; (with_reducible refine T3.ar1 ?_); refine T3.nL (by kernel_rfl) rfl ?_; (with_reducible refine T3.ar0 ?_)
  have hasc : (sh t [] 0).all (· < 128) = true := by
    rw [List.all_eq_true]
    intro ch hc
    exact decide_eq_true (asc128 _ (sh_asc t [] 0 hg.abc ch hc))
  have hshl := sh_len t [] 0
  simp only [List.length_nil] at hshl
  refine T3.fr0 (law_flat_ kf (hr.le (lit rfl)) hasc (sh_flat hg.abc)) ?_ (fun _ _ _ q => q.2)
  rintro _ P9 l9 ⟨rfl, _⟩
  (with_reducible refine T3.truB ?_; refine no rfl ?_; refine T3.or1 ?_; refine T3.isCmp ?_ rfl; refine T3.calln ?_ rfl); refine T3.nG (by assumption) (by kernel_rfl) rfl ?_; refine T3.cw0 (by assumption) rfl ?_; (with_reducible refine T3.ar1 ?_); refine T3.nL (by kernel_rfl) rfl ?_; (with_reducible refine T3.ar0 ?_)
  refine T3.fr0 (law_depth_ kf (hr.le (lit rfl)) hasc) ?_ (fun _ _ _ q => q.2)
  rintro _ P10 l10 ⟨⟨k10, rfl⟩, _⟩
  rw [sh_depth hg.abc]
  refine T3.nL (by kernel_rfl) rfl ?_; (with_reducible refine T3.iNe ?_; refine T3.truB ?_)
  refine no (by simp) ?_
  have hcho := shown_cho hg.abc hn
  refine e3x3 (hcho.rd) ?_; rintro l1' l2' ta' hs1 hs2 hs3
  have nodef : ∀ P : Vw, DefOk c P .none [] [] := fun P => .inl ⟨rfl, rfl, rfl⟩
  refine T3.or0 ⟨fun h => absurd h (by decide), fun _ => T3.ss0 (Nx.nx ?_)⟩
  refine T3.ss1 (T3.sSw2 hr.no ?_ rfl rfl rfl)
  (with_reducible refine T3.calln ?_ rfl); refine T3.nG (by assumption) (by kernel_rfl) rfl ?_; refine T3.cw0 (by assumption) rfl ?_; (with_reducible refine T3.ar1 ?_); refine T3.nL (by kernel_rfl) rfl ?_; (with_reducible refine T3.ar1 ?_; refine T3.cnone ?_; refine T3.ar0 ?_)
  refine T3.fr0 (heard_ok kf kg (hr.le (by omega)) (by omega) hs2 hs3 hs1 (nodef _) hn (by omega)) ?_ (fun _ _ _ q => q.2)
  rintro _ P11 l11 ⟨hb11, _⟩
  obtain ⟨bv, rfl⟩ := hb11.ref
  (with_reducible refine T3.calln ?_ rfl); refine T3.nG (by assumption) (by kernel_rfl) rfl ?_; refine T3.cw0 (by assumption) rfl ?_; (with_reducible refine T3.ar1 ?_; refine T3.binop ?_); refine T3.cstr ?_; intro _; refine T3.nL (by kernel_rfl) rfl ?_
  refine T3.sAdd (by rw [sizeLine_eq, S_len]; show 2 + _ ≤ _; omega) fun _ => ?_
  rw [show Str.ofString "x|" ++ S (sh t [] 0) = S (120 :: 124 :: sh t [] 0) from S_add [120, 124] (sh t [] 0)]
  (with_reducible refine T3.ar1 ?_; refine T3.cnone ?_; refine T3.ar0 ?_)
  refine e4x6 (longer_ok hcho hn) ?_; rintro g1 g2 ga t2 gs gr1 gr2 gn gz gh
  refine T3.fr0 (heard_ok kf kg (hr.le (by omega)) (by simp; omega) gr1 gr2 gs (nodef _) gn (by omega)) ?_ (fun _ _ _ q => q.2)
  rintro _ P12 l12 ⟨hb12, _⟩
  obtain ⟨lv, rfl⟩ := hb12.ref
  intro P13 l13
  have hb13 : Node P13 (.ref bv) t := (hb11.le l12).le l13
  have hl13 : Node P13 (.ref lv) t2 := hb12.le l13
  refine e1x2 (hb13.cls') ?_; rintro bfs hbi hbc
  refine e1x2 (hl13.cls') ?_; rintro lfs hli hlc
  have hn13 : Node P13 (.ref nv) t := (((((hn7.le l8).le l9).le l10).le l11).le l12).le l13
  have ht13 : TreeV P13 (.ref y) t := (((((ht7.le l8).le l9).le l10).le l11).le l12).le l13
  refine T3.st rfl ?_ (by kernel_rfl); refine T3.st rfl ?_ (by kernel_rfl); (with_reducible refine Nx.nx ?_; refine T3.ss1 ?_; refine T3.sIf ?_; refine T3.isBool ?_; refine T3.or1 ?_); refine T3.isT rfl ?_; (with_reducible refine T3.calln ?_ rfl); refine T3.nB (by assumption) (by kernel_rfl) (by boot_by_name) ?_; (with_reducible refine T3.cwB ?_; refine T3.ar1 ?_); refine T3.nL (by kernel_rfl) rfl ?_; (with_reducible refine T3.ar1 ?_); refine T3.nB (by assumption) (by kernel_rfl) (by boot_by_name) ?_; (with_reducible refine T3.ar0 ?_)
  refine T3.isInt kf kg hbc hbi ?_
  (with_reducible refine T3.truB ?_; refine no rfl ?_; refine T3.or1 ?_; refine T3.isCmp ?_ rfl); refine T3.callm ?_ rfl rfl rfl (lit rfl); refine T3.nL (by kernel_rfl) rfl ?_
  refine T3.told kf hb13 ?_
  refine T3.cw10 kf t.inTab.2.2.2 ?_
  refine T3.fr0 (told_ kf t.sz t (Nat.le_refl _) (hr.le (by omega)) (by omega) hb13) ?_ (fun _ _ _ q => q.2)
  rintro _ P14 l14 ⟨hv14, _⟩
  obtain ⟨v14, rfl⟩ := hv14.ref
  refine T3.nL (by kernel_rfl) rfl ?_
  refine T3.daNeS (n := 200) hv14.da (ht13.le l14).da tl.1 (by omega) hu ?_
  (with_reducible refine T3.truB ?_; refine no rfl ?_; refine T3.or1 ?_); refine T3.isT rfl ?_; (with_reducible refine T3.calln ?_ rfl); refine T3.nB (by assumption) (by kernel_rfl) (by boot_by_name) ?_; (with_reducible refine T3.cwB ?_; refine T3.ar1 ?_); refine T3.nL (by kernel_rfl) rfl ?_; (with_reducible refine T3.ar1 ?_); refine T3.nB (by assumption) (by kernel_rfl) (by boot_by_name) ?_; (with_reducible refine T3.ar0 ?_)
  refine T3.isInt kf kg hlc (hli.le l14) ?_
  (with_reducible refine T3.truB ?_; refine no rfl ?_; refine T3.or0 ?_; refine no rfl ?_; refine T3.ss0 ?_; refine Nx.nx ?_; refine T3.ss1 ?_); refine T3.sAsg ?_ rfl rfl rfl; (with_reducible refine T3.calln ?_ rfl); refine T3.nG (by assumption) (by kernel_rfl) rfl ?_; refine T3.cw0 (by assumption) rfl ?_; (with_reducible refine T3.ar1 ?_; refine T3.binop ?_; refine T3.calln ?_ rfl); refine T3.nG (by assumption) (by kernel_rfl) rfl ?_; refine T3.cw0 (by assumption) rfl ?_; (with_reducible refine T3.ar1 ?_; refine T3.calln ?_ rfl); refine T3.nG (by assumption) (by kernel_rfl) rfl ?_; refine T3.cwC (by assumption) rfl ?_; (with_reducible refine T3.ar1 ?_); refine T3.nL (by kernel_rfl) rfl ?_; (with_reducible refine T3.ar1 ?_; refine T3.cbool ?_; refine T3.ar1 ?_; refine T3.cnone ?_; refine T3.ar0 ?_)
  have hn14 := hn13.le l14
  refine T3.fr0 (pat_new kf (hr.le (lit rfl))) ?_ (fun _ _ _ q => q.2)
  rintro _ P15 l15 hqa; obtain ⟨hqb, _⟩ := hqa; refine e1x2 hqb ?_; clear hqb; rintro po hra hpo; subst hra
  (with_reducible refine T3.ar0 ?_)
  refine T3.fr0 (show_pattern_ kf kg hg.abc (hr.le (by omega)) (by omega) hpo (hn14.le l15)) ?_ (fun _ _ _ q => q.2)
  rintro _ P16 l16 ⟨⟨k16, rfl⟩, _⟩
  refine T3.cstr ?_; intro _
  refine T3.sAdd (by rw [sizeLine_eq, S_len]; show _ + 2 ≤ _; simp; omega) fun _ => ?_
  rw [show S (94 :: sh t [] 0) ++ Str.ofString " z" = S (94 :: (sh t [] 0 ++ [32, 122])) from S_add (94 :: sh t [] 0) [32, 122]]
  (with_reducible refine T3.ar1 ?_); refine T3.cint ?_; intro _; (with_reducible refine T3.ar1 ?_; refine T3.cnone ?_; refine T3.ar0 ?_)
  have e1' : (sg (94 :: (sh t [] 0 ++ [32, 122])) 0 == [94]) = true := rfl
  have hls : (sh t [] 0).length = l1'.length + l2'.length := by rw [hs1, List.length_append]
  have e2' : At (94 :: (sh t [] 0 ++ [32, 122])) 1 (l1' ++ l2') := ⟨[32, 122], by rw [List.drop_succ_cons, List.drop_zero, hs1]⟩
  have e3' : sg (94 :: (sh t [] 0 ++ [32, 122])) (1 + (l1'.length + l2'.length)) = [32] := by
    refine sg_some ?_
    rw [Nat.add_comm 1, List.getElem?_cons_succ, ← hls, List.getElem?_append_right (Nat.le_refl _), Nat.sub_self]
    rfl
  refine e2x1 (shown_ne t hg.abc) ?_; rintro sq sr hse
  refine T3.fr0 (lawpat_ok (p := 0) (q := 1) (bg := true) (δ := []) kf kg (hr.le (by omega)) (by simp; omega) hs2 hs3 e1' rfl e2' (by rw [← hls, hse]; simp) e3' (nodef _) (by omega) hn) ?_ (fun _ _ _ q => q.2)
  rintro _ P17 l17 hqa; obtain ⟨hqb, _⟩ := hqa; refine e4x4 hqb ?_; clear hqb; rintro pa pp pb pk hra hp1 hp2 hp3; subst hra
  (with_reducible refine T3.aName ?_); refine T3.st rfl ?_ (by kernel_rfl); (with_reducible refine Nx.nx ?_; refine T3.ss1 ?_; refine T3.sRet ?_; refine T3.boolE2 ?_; refine T3.boolAnd ?_; refine T3.unop ?_; refine T3.calln ?_ rfl); refine T3.nB (by assumption) (by kernel_rfl) (by boot_by_name) ?_; (with_reducible refine T3.cwB ?_; refine T3.ar1 ?_); refine T3.nL (by kernel_rfl) rfl ?_; (with_reducible refine T3.ar1 ?_); refine T3.nB (by assumption) (by kernel_rfl) (by boot_by_name) ?_; (with_reducible refine T3.ar0 ?_)
  refine T3.isIntT hp1 ?_
  refine T3.uNot ?_
  (with_reducible refine T3.truB ?_; refine yes rfl ?_; refine T3.boolLast ?_; refine T3.cmp1 ?_ rfl); refine T3.callm ?_ rfl rfl rfl (lit rfl); refine T3.subG ?_ (fun _ _ => rfl); refine T3.nL (by kernel_rfl) rfl ?_; refine T3.cint ?_; intro _; refine T3.gTu (by with_reducible assumption) ?_
  refine T3.tItem (k := 0) hp1 rfl rfl (by rw [sizeLine_eq]; simp) ?_
  refine T3.mFI (by assumption) (by with_reducible assumption) (by first | assumption | kernel_rfl) rfl (by kernel_rfl) rfl ?_; refine T3.cw10 (by assumption) rfl ?_
  refine T3.fr0 (pattern_told_ kf (hr.le (by omega)) (by omega) hp2 hp3) ?_ (fun _ _ _ q => q.2)
  rintro _ P18 l18 hqa; obtain ⟨hqb, _⟩ := hqa; refine e2x3 hqb ?_; clear hqb; rintro pa2 px2 hra hp4 hp5; subst hra
  (with_reducible refine T3.tup ?_ rfl; refine T3.ar1 ?_; refine T3.cbool ?_; refine T3.ar1 ?_); refine T3.nL (by kernel_rfl) rfl ?_; (with_reducible refine T3.ar1 ?_; refine T3.cnone ?_; refine T3.ar0 ?_); refine T3.newTu (lit rfl) ?_; intro _ _ _ _
  rename_i tt2 P19 l19 htt2
  have tl3 := tol_lay true t
  have ht19 : TreeV P19 (.ref y) t := (((((ht13.le l14).le l15).le l16).le l17).le l18).le l19
  refine T3.daEqS (n := 200) ((tol_da hp4 hp5).le l19) (tol_da htt2 ht19) tl3.1 (by omega) hu ?_
  (with_reducible refine Nx.ret ?_)
  exact Bk.mk rfl
end
section
variable {c : Cx} {A : Around} {P : Vw} {σ vs : St} {E : Value → Vw → St → Prop} {env : Env} {l : Addr} {xs : List Value} {ns : List Int}
theorem T3.stp {st : Stmt} {rest : List Stmt} {Q : Flow → Vw → St → Prop} (I : Vw → St → Prop) (h1 : T3 c A (exec st env) P σ (fun f P' σ' => f = .next ∧ I P' σ') E) (h2 : ∀ P' σ', Le P P' → I P' σ' → T3 c A (execs rest env) P' σ' Q E) : T3 c A (execs (st :: rest) env) P σ Q E :=
  T3.ss1 (h1.conseq fun f P' σ' l ⟨e, h⟩ => by subst e; exact Nx.nx (h2 P' σ' l h))
theorem law_ (kf : KF c) (kg : KG c) (kx : KX c) (hr : Room A 320) (hfr : A.frames = some []) (hl : LiP P l xs) (hi : IntsAre xs ns) (hz : xs.length ≤ 1000) : T3 c A (PySem.call (.ref 1061) [.ref l]) P [] (fun v P' σ' => v = .bool true) NoE := by
  let Q1 : KO Value := fun v P' σ' => v = .bool true
  show T3 _ _ _ _ _ Q1 _
  refine T3.d0 kf.f_law [("script", .ref l)] hr.dep (fun _ _ _ _ _ _ => by kernel_rfl) (by kernel_rfl) fun L cdv => ?_
  have hd : Room (A.deeper (eW L cdv)) 319 := hr.deeper
  refine T3.stp (fun P' σ' => ∃ m d vs, σ' = (L, NsP m) :: vs ∧ Has m [(Str.ofString "vial", .ref d)] ∧ Vial c d vs) ?_ ?_
  · refine T3.sAsg ?_ rfl rfl rfl; (with_reducible refine T3.calln ?_ rfl); refine T3.nG (by assumption) (by kernel_rfl) rfl ?_; refine T3.cw0 (by assumption) rfl ?_; (with_reducible refine T3.ar1 ?_); refine T3.nL (by kernel_rfl) rfl ?_; (with_reducible refine T3.ar0 ?_)
    refine T3.frTl (pre := [_]) (σ₁ := []) (vial_ kf (hd.le (lit rfl)) hl hi hz) ?_
    rintro _ P1 vs1 l1 hqa; refine e1x3 hqa ?_; clear hqa; rintro d hra _ hv; subst hra
    simp only [List.cons_append, List.nil_append, List.append_nil]
    (with_reducible refine T3.aName ?_); refine T3.st rfl ?_ (by kernel_rfl)
    exact ⟨by trivial, i3x3 _ d vs1 rfl (by repeat (first | exact Has.nil | refine Has.cons rfl ?_)) hv⟩
  rintro P1 _ l1 hqa; refine e3x3 hqa ?_; clear hqa; rintro m d vs hra hm hv; subst hra
  refine T3.stp (fun P' σ' => ∃ m vs, ∃ w : Nat, ∃ k b, σ' = (L, NsP m) :: vs ∧ Has m [(Str.ofString "is_wrapped", .bool b), (Str.ofString "base", .int (w : Nat) k), (Str.ofString "vial", .ref d)] ∧ w < 4 ∧ Vial c d vs) ?_ ?_
  · refine T3.forget hm ?_
    refine T3.sSw2 hd.no ?_ rfl rfl rfl
    (with_reducible refine T3.cmp1 ?_ rfl; refine T3.calln ?_ rfl); refine T3.nG (by assumption) (by kernel_rfl) rfl ?_; refine T3.cw0 (by assumption) rfl ?_; (with_reducible refine T3.ar1 ?_); refine T3.nL (by kernel_rfl) rfl ?_; (with_reducible refine T3.ar1 ?_); refine T3.cint ?_; intro _; (with_reducible refine T3.ar0 ?_)
    refine T3.frTl (pre := [_]) (drop_ (m := 2) kf (hd.le (lit rfl)) hv (by decide) fun _ => rfl) ?_
    rintro _ P2 vs2 l2 hqa; obtain ⟨hqb, hv2⟩ := hqa; refine e2x2 hqb ?_; clear hqb; rintro r2 kr2 hra hrr2; subst hra
    simp only [List.cons_append, List.nil_append, List.append_nil]
    refine T3.cint ?_; intro _; (with_reducible refine T3.iEq ?_; refine T3.calln ?_ rfl); refine T3.nG (by assumption) (by kernel_rfl) rfl ?_; refine T3.cw0 (by assumption) rfl ?_; (with_reducible refine T3.ar1 ?_); refine T3.nL (by kernel_rfl) rfl ?_; (with_reducible refine T3.ar1 ?_); refine T3.cint ?_; intro _; (with_reducible refine T3.ar0 ?_)
    refine T3.frTl (pre := [_]) (drop_ (m := 4) kf (hd.le (lit rfl)) hv2 (by decide) fun _ => rfl) ?_
    rintro _ P3 vs3 l3 hqa; obtain ⟨hqb, hv3⟩ := hqa; refine e2x2 hqb ?_; clear hqb; rintro r3 kr3 hra hrr3; subst hra
    simp only [List.cons_append, List.nil_append, List.append_nil]
    intro P4 l4
    refine T3.st rfl ?_ (by kernel_rfl); refine T3.st rfl ?_ (by kernel_rfl)
    exact ⟨by trivial, i5x4 _ vs3 r3 kr3 _ rfl (by repeat (first | exact Has.nil | refine Has.cons rfl ?_)) hrr3 hv3⟩
  rintro P2 _ l2 hqa; refine e5x4 hqa ?_; clear hqa; rintro m vs w kw b hra hm hw hv; subst hra
  refine e0x5 (base_ok w hw) ?_; rintro bo1 bo2 bo3 bo4 bo5
  refine T3.stp (fun P' σ' => ∃ m x k, σ' = (L, NsP m) :: vs ∧ Has m [(Str.ofString "text", .str (S (baseT w).1) k), (Str.ofString "tree", .ref x), (Str.ofString "is_wrapped", .bool b), (Str.ofString "base", .int (w : Nat) kw), (Str.ofString "vial", .ref d)] ∧ TreeV P' (.ref x) (baseT w).2) ?_ ?_
  · refine T3.forget hm ?_
    refine T3.sAsg ?_ rfl rfl rfl; (with_reducible refine T3.calln ?_ rfl); refine T3.nG (by assumption) (by kernel_rfl) rfl ?_; refine T3.cw0 (by assumption) rfl ?_; (with_reducible refine T3.ar1 ?_); refine T3.nL (by kernel_rfl) rfl ?_; (with_reducible refine T3.ar0 ?_)
    refine T3.fr0 (law_base_ kf (hd.le (lit rfl)) hw) ?_ (fun _ _ _ q => q.2)
    rintro _ P3 l3 hqa; obtain ⟨hqb, _⟩ := hqa; refine e3x3 hqb ?_; clear hqb; rintro a k x hra h1 h2; subst hra
    refine T3.unp2 (Room.no (by assumption)) (by with_reducible assumption) ?_; (with_reducible refine T3.aName ?_); refine T3.st rfl ?_ (by kernel_rfl); (with_reducible refine T3.aName ?_); refine T3.st rfl ?_ (by kernel_rfl)
    exact ⟨rfl, i3x3 _ x k rfl (by repeat (first | exact Has.nil | refine Has.cons rfl ?_)) h2⟩
  rintro P3 _ l3 hqa; refine e3x3 hqa ?_; clear hqa; rintro m x k hra hm hx; subst hra
  refine T3.stp (fun P' σ' => ∃ m k, ∃ T : List Nat, σ' = (L, NsP m) :: vs ∧ Has m [(Str.ofString "text", .str (S T) k), (Str.ofString "tree", .ref x), (Str.ofString "is_wrapped", .bool b), (Str.ofString "vial", .ref d)] ∧ T.length ≤ 10 ∧ (b = true → T = (baseT w).1) ∧ (b = false → ∀ dd, dd ≤ 1 → Rd [] dd .sg T (baseT w).2)) ?_ ?_
  · refine T3.forget hm ?_
    (with_reducible refine T3.sIf ?_; refine T3.isBool ?_; refine T3.and1 ?_; refine T3.isCmp ?_ rfl; refine T3.binop ?_); refine T3.nL (by kernel_rfl) rfl ?_; refine T3.cint ?_; intro _
    refine T3.iMod (by decide) fun _ => ?_
    refine T3.cint ?_; intro _; (with_reducible refine T3.iEq ?_; refine T3.truB ?_)
    by_cases h1 : w % 2 = 1
    · refine yes (by simp; omega) ?_
      (with_reducible refine T3.and1 ?_; refine T3.isNot ?_); refine T3.isT rfl ?_; refine T3.nL (by kernel_rfl) rfl ?_; (with_reducible refine T3.truB ?_)
      cases b with
      | true =>
        (with_reducible refine no rfl ?_; refine no rfl ?_; refine T3.ss0 ?_)
        exact ⟨rfl, i3x5 _ k ((baseT w).1) rfl (by repeat (first | exact Has.nil | refine Has.cons rfl ?_)) (by omega) (fun _ => rfl) (fun h => (nomatch h))⟩
      | false =>
        (with_reducible refine yes rfl ?_; refine T3.and0 ?_; refine yes rfl ?_; refine T3.ss1 ?_); refine T3.sAsg ?_ rfl rfl rfl; (with_reducible refine T3.binop ?_; refine T3.binop ?_); refine T3.cstr ?_; intro _; refine T3.nL (by kernel_rfl) rfl ?_
        refine T3.sAdd (by rw [sizeLine_eq, S_len]; show 1 + _ ≤ _; omega) fun _ => ?_
        refine T3.cstr ?_; intro _
        refine T3.sAdd (by rw [sizeLine_eq]; show (S [40] ++ S _).length + 1 ≤ _; rw [S_add, S_len]; simp; omega) fun _ => ?_
        rw [in_brk]
        (with_reducible refine T3.aName ?_); refine T3.st rfl ?_ (by kernel_rfl); (with_reducible refine Nx.nx ?_; refine T3.ss0 ?_)
        rw [if_pos h1] at bo5
        exact ⟨rfl, i3x5 _ _ (40 :: ((baseT w).1 ++ [41])) rfl (by repeat (first | exact Has.nil | refine Has.cons rfl ?_)) (by simp; omega) (fun h => (nomatch h)) (fun _ => bo5)⟩
    · refine no (by simp; omega) ?_
      (with_reducible refine no rfl ?_; refine T3.ss0 ?_)
      rw [if_neg h1] at bo5
      exact ⟨rfl, i3x5 _ k ((baseT w).1) rfl (by repeat (first | exact Has.nil | refine Has.cons rfl ?_)) (by omega) (fun _ => rfl) (fun _ => bo5)⟩
  rintro P4 _ l4 hqa; refine e3x5 hqa ?_; clear hqa; rintro m k T hra hm hT1 hT2 hT3; subst hra
  refine T3.stp (fun P' σ' => ∃ m T t D fs k y kd vs, σ' = (L, NsP m) :: (kd, IsD c fs) :: vs ∧ Has m [(Str.ofString "known", .ref kd), (Str.ofString "text", .str (S T) k), (Str.ofString "tree", .ref y)] ∧ TreeV P' (.ref y) t ∧ kd ≠ sysModules ∧ DefF P' D fs ∧ Good D T t) ?_ ?_
  · refine T3.forget hm ?_
    refine T3.sAsg ?_ rfl rfl rfl; (with_reducible refine T3.ifexp ?_); refine T3.isT rfl ?_; refine T3.nL (by kernel_rfl) rfl ?_; (with_reducible refine T3.truB ?_)
    cases b with
    | true =>
      (with_reducible refine yes rfl ?_; refine T3.calln ?_ rfl); refine T3.nG (by assumption) (by kernel_rfl) rfl ?_; refine T3.cw0 (by assumption) rfl ?_; (with_reducible refine T3.ar1 ?_); refine T3.nL (by kernel_rfl) rfl ?_; (with_reducible refine T3.ar1 ?_); refine T3.nL (by kernel_rfl) rfl ?_; (with_reducible refine T3.ar1 ?_); refine T3.nL (by kernel_rfl) rfl ?_; (with_reducible refine T3.ar0 ?_)
      refine T3.frTl (pre := [_]) (wrapped_law_ kf kg (hd.le (lit rfl)) bo1 (hx.le l4) (fun dd h => by rw [hT2 rfl]; exact bo4 dd h) (by assumption) (by rw [hT2 rfl]; exact bo3) hv) ?_
      rintro _ P5 _ l5 hqa; refine e9x8 hqa ?_; clear hqa; rintro a T5 t5 D5 fs5 k5 y5 kd5 vs5 hra hrb h1 h2 h3 h4 h5 h6; subst hra; subst hrb
      simp only [List.cons_append, List.nil_append, List.append_nil]
      refine T3.unp3 (Room.no (by assumption)) (by with_reducible assumption) ?_; (with_reducible refine T3.aName ?_); refine T3.st rfl ?_ (by kernel_rfl); (with_reducible refine T3.aName ?_); refine T3.st rfl ?_ (by kernel_rfl); (with_reducible refine T3.aName ?_); refine T3.st rfl ?_ (by kernel_rfl)
      exact ⟨by trivial, i9x6 _ T5 t5 D5 fs5 k5 y5 kd5 vs5 rfl (by repeat (first | exact Has.nil | refine Has.cons rfl ?_)) h2 h3 h4 h5⟩
    | false =>
      (with_reducible refine no rfl ?_; refine T3.calln ?_ rfl); refine T3.nG (by assumption) (by kernel_rfl) rfl ?_; refine T3.cw0 (by assumption) rfl ?_; (with_reducible refine T3.ar1 ?_); refine T3.nL (by kernel_rfl) rfl ?_; (with_reducible refine T3.ar1 ?_); refine T3.nL (by kernel_rfl) rfl ?_; (with_reducible refine T3.ar1 ?_); refine T3.nL (by kernel_rfl) rfl ?_; (with_reducible refine T3.ar0 ?_)
      refine T3.frTl (pre := [_]) (looped_law_ kf kg (hd.le (lit rfl)) bo1 (hx.le l4) (hT3 rfl 0 (by decide)) (hT3 rfl 1 (by decide)) (by assumption) hv) ?_
      rintro _ P5 _ l5 hqa; refine e9x8 hqa ?_; clear hqa; rintro a T5 t5 D5 fs5 k5 y5 kd5 vs5 hra hrb h1 h2 h3 h4 h5 h6; subst hra; subst hrb
      simp only [List.cons_append, List.nil_append, List.append_nil]
      refine T3.unp3 (Room.no (by assumption)) (by with_reducible assumption) ?_; (with_reducible refine T3.aName ?_); refine T3.st rfl ?_ (by kernel_rfl); (with_reducible refine T3.aName ?_); refine T3.st rfl ?_ (by kernel_rfl); (with_reducible refine T3.aName ?_); refine T3.st rfl ?_ (by kernel_rfl)
      exact ⟨by trivial, i9x6 _ T5 t5 D5 fs5 k5 y5 kd5 vs5 rfl (by repeat (first | exact Has.nil | refine Has.cons rfl ?_)) h2 h3 h4 h5⟩
  rintro P5 _ l5 hqa; refine e9x6 hqa ?_; clear hqa; rintro m T t D fs k y kd vs hra hm h1 h2 h3 h4; subst hra
  by_cases hn : need t 0 ≤ 20
  · exact law_tail_good kf kg (hd.le (lit rfl)) hm h1 h2 h3 h4 hn
  · exact law_tail_bad kf kg kx (hd.le (lit rfl)) hfr hm h1 h2 h3 h4 (by omega)
end
end Mine
end
section
open PySem PySem.W PySem.Calls PyProof.Rows
namespace Mine
theorem wints_of {R : WRecords} : ∀ {xs : List WData}, WShape.hasItems R xs .int = true → ∃ ns : List Int, xs = ns.map .int
  | [], _ => ⟨[], rfl⟩
  | x :: r, h => by
    simp only [WShape.hasItems, Bool.and_eq_true] at h
    obtain ⟨ns, rfl⟩ := wints_of h.2
    cases x with
    | int i => exact ⟨i :: ns, rfl⟩
    | _ => exact absurd h.1 (by simp [WShape.has, WShape.arms])
theorem most_of {ys : List WData} (h : ((PySem.Challenge.rw_qd0073_01).pre).holds [] { args := [.list ys] } = true) : ys.length ≤ 63 := by
  refine Nat.le_of_not_lt fun hl => ?_
  have e : ((PySem.Challenge.rw_qd0073_01).pre).value [] { args := [.list ys] } = some (.bool false) := by
    have d : Num.less? (.int 63) (.int (ys.length : Int)) = some true := congrArg some (decide_eq_true (by omega))
    show WTm.value [] (.and (.not (.lt (.lit (.int 63)) (.len (.arg 0)))) (.lit (.bool true))) { args := [.list ys] } = _
    simp [WTm.value, less?, d]
  rw [WTm.holds, e] at h
  cases h
theorem args_of {args : List WData} (h : (PySem.Challenge.rw_qd0073_01).row.toRowW.claim.pre args = true) : ∃ ns : List Int, args = [.list (ns.map .int)] ∧ ns.length ≤ 63 := by
  obtain ⟨h1, h2⟩ := Bool.and_eq_true_iff.mp (show (WShape.hasAll [] args [.list .int] && ((PySem.Challenge.rw_qd0073_01).pre).holds [] { args := args }) = true from h)
  match args, h1, h2 with
  | [], h1, _ => cases h1
  | [a], h1, h2 =>
    simp only [WShape.hasAll, Bool.and_eq_true] at h1
    cases a with
    | list ys =>
      have h3 : WShape.hasItems [] ys .int = true := by simpa [WShape.has, WShape.arms] using h1.1
      obtain ⟨ns, rfl⟩ := wints_of h3
      exact ⟨ns, rfl, by have := most_of h2; simpa using this⟩
    | _ => exact absurd h1.1 (by simp [WShape.has, WShape.arms])
  | _ :: _ :: _, h1, _ => simp [WShape.hasAll] at h1
end Mine
end
section
open PySem PySem.W PySem.Calls PyProof.Rows
set_option maxHeartbeats 4000000
namespace Mine
theorem ints_are {R : WRecords} {cl : Str → Option Addr} {h : Heap} : ∀ {vs : List Value} {ns : List Int} {as : List Addr}, ReadsAllW R cl h vs (ns.map .int) as → IntsAre vs ns
  | vs, [], as, r => by
    obtain ⟨rfl, _⟩ := readsAllW_nil_inv r
    exact .nil
  | vs, n :: ns, as, r => by
    obtain ⟨v, vs, as1, as2, rfl, _, r1, r2⟩ := readsAllW_cons_inv r
    obtain ⟨t, rfl, _⟩ := readsW_int_inv r1
    exact .cons n t (ints_are r2)
theorem post_true (a b : List WData) : (PySem.Challenge.rw_qd0073_01).row.toRowW.claim.post a (.bool true) b = true := by
  show (WShape.has [] (.bool true) .bool && (WTm.eq .res (.lit (.bool true))).holds [] { args := a, res := some (.bool true), after := b }) = true
  simp [WShape.has, WShape.arms, WTm.holds, WTm.value, same]
theorem law_call {w : World} {s₀ s₁ : Shared} {mg mb : Str → Option Value} (G : Ground q0 looseN [] (fun _ _ => True) w s₀ mg mb s₁.heap) (Y : hookP w s₁.heap) (hg : s₁.gens = #[])
    {args : List WData} {vals : List Value} {as : List Addr} (hpre : (PySem.Challenge.rw_qd0073_01).row.toRowW.claim.pre args = true) (hrd : ReadsAllW [] (classAt s₀.heap) s₁.heap vals args as) :
    wpAny (model pw w) callerA (PySem.call (.ref 1061) vals) (fun v s' => GoodWG (PySem.Challenge.rw_qd0073_01).row.toRowW.claim (classAt s₀.heap) (ExcName.means s₀.heap) args s₁ (.ok (.ret v)) s')
      (fun e s' => GoodWG (PySem.Challenge.rw_qd0073_01).row.toRowW.claim (classAt s₀.heap) (ExcName.means s₀.heap) args s₁ (.error e) s') s₁ := by
  obtain ⟨K, hK, hb, hf⟩ := Y
  obtain ⟨ns, rfl, hn⟩ := args_of hpre
  obtain ⟨v, vs, as1, as2, rfl, _, r1, r2⟩ := readsAllW_cons_inv hrd
  obtain ⟨rfl, _⟩ := readsAllW_nil_inv r2
  obtain ⟨l, ys, as', rfl, ⟨o, ho, hc, n, hd⟩, r3, _⟩ := readsW_list_inv r1
  have hI := ints_are r3
  have hlen : ys.toList.length = ns.length := by have := r3.length; simpa using this
  let c : Cx := { prog := pw, w := w, K := K, H := s₁.heap, os := s₁.os, mg := mg, mb := mb, kin := hK, gns := G.T.g, bns := G.T.b, bb := G.T.builtins, lim := G.T.nolimit }
  have kf : KF c := KF.of rfl hb hf
  have kg : KG c := KG.of hb
  have kx : KX c := KX.of hb
  have gd : Gd c s₁.heap.get? [] (fun _ => none) s₁ :=
    ⟨⟨fun a o e => e, fun a o e => e, fun a o e => (nomatch e), fun a o e => rfl, fun x hx => (nomatch hx), List.nodup_nil⟩, hg, rfl⟩
  have hl : LiP s₁.heap.get? l ys.toList := ⟨o, ho, hc, n, by rw [hd]⟩
  have hr : Room callerA 320 := ⟨by decide +kernel, by decide +kernel, rfl⟩
  have z := law_ (A := callerA) kf kg kx hr rfl hl hI (by omega) _ _ gd
  refine wpAny_mono z ?_ ?_
  · rintro v s' ⟨P', σ', le, g, rfl⟩
    refine ⟨.inl ⟨_, _, [], rfl, fun cls => rfl, ReadsW.bool true, post_true _ _, fun _ => ⟨List.nodup_nil, fun _ hm => (nomatch hm)⟩⟩, .of_keep fun b o e => g.ok.per _ _ (le _ _ e), g.os, ?_⟩
    rw [g.gens]; exact AllBare.empty
  · rintro e s' ⟨P', σ', le, g, hx⟩
    exact hx.elim
end Mine
end
section
open PySem PySem.W PySem.Calls PyProof.Rows
set_option maxHeartbeats 4000000
namespace Mine
theorem law_mg {w : World} {s₀ s₁ : Shared} {mg mb : Str → Option Value} (G : Ground q0 looseN [] (fun _ _ => True) w s₀ mg mb s₁.heap) (Y : hookP w s₁.heap) : mg (Str.ofString "law") = some (.ref 1061) := by
  obtain ⟨K, hK, hb, hf⟩ := Y
  exact mg_of hK G.T.g (beq_iff_eq.mp (factL_of hb _ (List.mem_of_getElem? (i := 17) rfl)))
noncomputable def fdPos : Stmt → Pos | .FunctionDef _ _ _ _ _ _ _ _ _ p => p | _ => default
noncomputable def dLaw : DefRec := ⟨Str.ofString "law", fdP (topS 79), fdB (topS 79), fdS (topS 79), fdPos (topS 79)⟩
theorem law_def : defOf q0 (Str.ofString "law") = some (dLaw, []) := by kernel_rfl
theorem law_pin : pw.theDef (Str.ofString "law") = some (fdP (topS 79), fdB (topS 79), fdS (topS 79)) := by kernel_rfl
theorem law_walk : WalkO q0 looseN (fun _ _ => True) hookP (PySem.Challenge.rw_qd0073_01).row.toRowW dLaw [] fun f vs => PySem.call f vs := by
  intro w s₀ s₁ mg mb G Y a o pm cd doc dV kV ho hd hcd hD hmg hg args vals as hpre hlay hrd hwl hlo
  have e : some (Value.ref 1061) = some (Value.ref a) := (law_mg G Y).symm.trans hmg
  obtain rfl : 1061 = a := by injection e with e; injection e
  exact law_call G Y hg hpre hrd
theorem law_open (said : (PySem.Challenge.rw_qd0073_01).row.wellSaid = true) : (PySem.Challenge.rw_qd0073_01).row.Holds :=
  holds_open (q := q0) (loose := looseN) (Xt := fun _ => true) (XP := fun _ _ => True) (Yf := hookF) (Ya := hookA) (YP := hookP) (d := dLaw) (kwd := []) (N := 9300) left_law hook_of hook_keeps (fun _ _ => trivial) (fun _ _ _ h _ => h)
    law_def law_pin (by kernel_rfl) (fun s _ => recFacts_nil rfl) (by rfl) said (by decide +kernel) ⟨rfl, rfl, rfl, rfl, rfl, by decide +kernel⟩ ⟨[.list []], by decide +kernel, by decide +kernel⟩ law_walk
theorem law_said : (PySem.Challenge.rw_qd0073_01).wellSaid = true := by
  try rw [PySem.W.Fast.te9446332074065402090]
  decide +kernel
end Mine
end
set_option maxRecDepth 100000 in
set_option maxHeartbeats 8000000 in
theorem PySem.Challenge.cw_qd0073_01_holds : PySem.Challenge.rw_qd0073_01.Holds := by
  exact PySem.W.holds_law Mine.law_said Mine.law_open
