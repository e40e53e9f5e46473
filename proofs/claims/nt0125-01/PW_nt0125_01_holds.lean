import PyProof.Rows.All
import KE.KIntText
import KE.KIsNot
import KE.KSliceW
import KE.KTryDeep
import Lean
import PySem.Challenge.RW_nt0125_01
set_option Elab.async false
set_option compiler.extract_closed false
set_option maxRecDepth 100000
namespace Mine
open PySem.Str renaming ofString → so
open Nat renaming le_of_ble_eq_true → lbe, lt_of_lt_of_le → lll, le_trans → nlt, le_refl → nlr, lt_succ_self → nls, ne_of_lt → nnl, le_add_right → nla, lt_of_le_of_lt → nll, le_of_lt → nol, le_of_eq → noe
open List renaming append_assoc → lap, length_map → llm, length_append → lla, append_nil → lan, length_cons → llc
theorem bes {α β} {o : Option α} {f : α → Option β} {b} (h : o.bind f = some b) : ∃ a, o = some a ∧ f a = some b := Option.bind_eq_some_iff.mp h
theorem fmc {α} {p : α → Prop} {a : α} {l : List α} (h : p a ∧ ∀ x ∈ l, p x) : ∀ x ∈ a :: l, p x := List.forall_mem_cons.mpr h
theorem mes {α β} {o : Option α} {f : α → β} {b} (h : o.map f = some b) : ∃ a, o = some a ∧ f a = b := Option.map_eq_some_iff.mp h
theorem lmc {α} {a b : α} {l : List α} (h : a ∈ b :: l) : a = b ∨ a ∈ l := List.mem_cons.mp h
section
open PySem PySem.W PySem.Calls PyProof.Rows
set_option maxHeartbeats 0
inductive D where
 | none | bool (b : Bool) | int (i : Int) | str (s : List Nat)
 | typ (s : String) | bi (s : String) | glob (a : Nat)
 | tup (l : List D) | lst (l : List D)
 | inst (c : Nat) (fs : List (Str × D))
 deriving Inhabited
structure MFun where
 params : List Str
 scope : Scope
 body : List Stmt
noncomputable def one? {α : Type} : List α → Option α
 | [a] => some a
 | _ => none
noncomputable def two? {α : Type} : List α → Option (α × α)
 | [a, b] => some (a, b)
 | _ => none
noncomputable def nameOf : Expr → Option Str
 | .Name id _ => some id
 | _ => none
noncomputable def tailX : List Value → Bool
 | .ref _ :: r => tailX r
 | l => l == [.type "Exception", .type "BaseException", .type "object"]
structure CI where
 init : Nat
 froz : Bool
 meths : List (Str × Nat)
 datas : List Str
structure TB where
 globs : List (Str × D)
 blts : List (Str × D)
 fns : List (Nat × MFun)
 clss : List (Nat × CI)
 subs : List ((Nat × Nat) × Bool)
 keep : List Nat
 pe : Nat
noncomputable def tupO (o : Obj) : Bool := decide (o.cls = .type "tuple") && (o.dict.isNone && o.slots.isEmpty)
noncomputable def allO (f : Value → Option D) : List Value → Option (List D)
 | [] => some []
 | v :: r => (f v).bind fun d => (allO f r).map (d :: ·)
noncomputable def objD (f : Value → Option D) (a : Nat) (o : Obj) : Option D := match o.data with
 | .seq its _ => if tupO o then (allO f its.toList).map .tup else none
 | .func _ => some (.glob a)
 | .cls _ => some (.glob a)
 | _ => none
noncomputable def valO (tab : List (Nat × List Nat)) (g : Nat → Option D) (v : Value) : Option D := match v with
 | .none => some .none
 | .bool b => some (.bool b)
 | .int i _ => some (.int i)
 | .str s t => if tab.lookup t = some s.cps.toList then some (.str s.cps.toList) else none
 | .type n => some (.typ n)
 | .builtin n => some (.bi n)
 | .ref a => g a
 | _ => none
noncomputable def refD (K : Frag) (tab : List (Nat × List Nat)) : Nat → Nat → Option D
 | 0, _ => none
 | k + 1, a => (K.lookup a).bind (objD (valO tab (refD K tab k)) a)
noncomputable def valD (K : Frag) (tab : List (Nat × List Nat)) (k : Nat) (v : Value) : Option D := valO tab (refD K tab k) v
noncomputable def tokO (g : Nat → List (Nat × List Nat)) (v : Value) : List (Nat × List Nat) := match v with
 | .str s t => [(t, s.cps.toList)]
 | .ref a => g a
 | _ => []
noncomputable def itsOf (o : Obj) : Option (List Value) := match o.data with
 | .seq its _ => some its.toList
 | _ => none
noncomputable def strTok (K : Frag) : Nat → Nat → List (Nat × List Nat)
 | 0, _ => []
 | k + 1, a => (((K.lookup a).bind itsOf).map fun l => l.flatMap (tokO (strTok K k))).getD []
noncomputable def funcOf (d : Data) : Option FuncData := match d with | .func fd => some fd | _ => none
noncomputable def stmtsOf (b : FuncBody) : Option (List Stmt) := match b with | .stmts b => some b | _ => none
noncomputable def lB : List Nat → List Nat → Bool
 | [], [] => true
 | a :: l, b :: r => match Nat.beq a b with | true => lB l r | false => false
 | _, _ => false
noncomputable def codeB (K : Frag) (cd : Value) (q : Str) : Bool := match cd with
 | .ref c => (match K.lookup c with
   | some ⟨_, _, .fields vs, _⟩ => (match vs.toList with | _ :: .str n _ :: _ => lB n.cps.toList q.cps.toList | _ => false)
   | _ => false)
 | _ => false
noncomputable abbrev names (fd : FuncData) : List Str := fd.params.args.map (·.arg)
abbrev PlainFd (K : Frag) (fd : FuncData) : Prop := (fd.params.posonlyargs.isEmpty = true ∧ fd.params.vararg.isNone = true ∧ fd.params.kwonlyargs.isEmpty = true ∧ fd.params.kwarg.isNone = true ∧ fd.defaults = .none) ∧
 (fd.closure.isEmpty = true ∧ fd.globals = mainGlobals ∧ fd.builtins = builtinsNs ∧ codeB K fd.code fd.qualname = true ∧ (names fd).Nodup) ∧ (∀ x ∈ names fd, fd.scope.names.lookup x = some .local ∨ fd.scope.names.lookup x = some .cell) ∧
 fd.scope.kind = .function ∧ fd.scope.isCoroutine = false ∧ fd.scope.isGenerator = false ∧ ∀ p ∈ fd.scope.names, p.2 ≠ .free
noncomputable def fnO (K : Frag) (fd : FuncData) : Option MFun := (stmtsOf fd.body).bind fun b => if PlainFd K fd then some ⟨names fd, fd.scope, b⟩ else none
noncomputable def fnK (K : Frag) (a : Nat) : Option MFun := (K.lookup a).bind fun o => (funcOf o.data).bind (fnO K)
noncomputable def fnAt (K : Frag) (f : Nat) : Bool := typeIn K (.ref f) == some (.type "function") && (fnK K f).isSome
abbrev ClsChk (K : Frag) (a : Nat) (c : CI) : Prop := (findIn K (.ref a) "__getattribute__" = some (some (.builtin "object.__getattribute__")) ∧ findIn K (.ref a) "__getattr__" = some none ∧ hasDictIn K a = true ∧ findIn K (.ref a) "__setattr__" = some (some (.builtin "object.__setattr__")) ∧ plainOver K a = true) ∧
 (makesIn K a = true ∧ keepIn K (.ref a) = true ∧ findIn K (.ref a) "__init__" = some (some (.ref c.init)) ∧ fnAt K c.init = true) ∧ (∀ p ∈ c.meths, findIn K (.ref a) p.1 = some (some (.ref p.2)) ∧ fnAt K p.2 = true) ∧ ∀ x ∈ c.datas, findIn K (.ref a) x = some none
noncomputable def subK (K : Frag) (k a : Nat) : Option Bool :=
 if isIn K (.ref k) a then some true
 else if kin_not K k a = true ∧ plainGet K k "__class__" = true ∧ hasDictIn K k = true ∧ findIn K (.ref k) "__class__" = some (some (.builtin "object.__class__")) ∧
  specialIn K (.builtin "object.__class__") "__get__" = some (some (.builtin "getset_descriptor.__get__")) ∧ takesIn K (.builtin "object.__class__") = some true ∧ mroIn K k (.type "object") = some true then some false
 else none
noncomputable def attrOf (e : Expr) : Option (Expr × Str) := match e with
 | .Attribute v a _ => some (v, a)
 | _ => none
noncomputable def asgOf (st : Stmt) : Option (Str × Str × Str) := match st with
 | .Assign ts v _ => (one? ts).bind fun t => (attrOf t).bind fun p => (nameOf p.1).bind fun x => (nameOf v).map fun y => (x, p.2, y)
 | _ => none
noncomputable def three? {α : Type} (l : List α) : Option (α × α × α) := match l with
 | a :: l => (two? l).map fun p => (a, p)
 | [] => none
abbrev IniChk (K : Frag) (pe : Nat) (sc : Scope) (p : Str × Str × Str) (u w : Str × Str × Str) : Prop := (u.1 = p.1 ∧ w.1 = p.1 ∧ u.2.2 = p.2.1 ∧ w.2.2 = p.2.2) ∧ (sc.names.lookup p.1 = some .local ∧ sc.names.lookup p.2.1 = some .local ∧ sc.names.lookup p.2.2 = some .local) ∧
 ((p.1 == ("__debug__" : Str)) = false ∧ (p.2.1 == ("__debug__" : Str)) = false ∧ (p.2.2 == ("__debug__" : Str)) = false) ∧ findIn K (.ref pe) u.2.1 = some none ∧ findIn K (.ref pe) w.2.1 = some none
noncomputable def iniO (K : Frag) (pe : Nat) (mf : MFun) : Option Unit := (three? mf.params).bind fun p => (two? mf.body).bind fun b => (asgOf b.1).bind fun u => (asgOf b.2).bind fun w => if IniChk K pe mf.scope p u w then some () else none
noncomputable def initAt (K : Frag) (pe : Nat) : Option Nat := match findIn K (.ref pe) "__init__" with
 | some (some (.ref f)) => some f
 | _ => none
noncomputable def iniK (K : Frag) (pe : Nat) : Option Unit := (initAt K pe).bind fun f => if typeIn K (.ref f) = some (.type "function") then (fnK K f).bind (iniO K pe) else none
noncomputable def clsOf? (d : Data) : Option ClassData := match d with | .cls c => some c | _ => none
noncomputable def uncons? {α : Type} (l : List α) : Option (α × List α) := match l with | a :: l => some (a, l) | [] => none
noncomputable def slot (o : Obj) (i : Nat) : Option Value := (o.slots[i]?).getD none
abbrev SlotsOk (pe : Nat) (o : Obj) (cd : ClassData) (C : Value) (bm : List Value) : Prop := o.cls = .type "type" ∧ C = .ref pe ∧ cd.hasDict = true ∧ cd.hasDel = false ∧ tailX bm = true ∧ o.slots = #[slot o 0, slot o 1, slot o 2, slot o 3, some (.builtin "Exception.__new__"), slot o 5]
noncomputable def peClsO (pe : Nat) (o : Obj) : Option Unit := (clsOf? o.data).bind fun cd => (uncons? cd.mro).bind fun p => if SlotsOk pe o cd p.1 p.2 then some () else none
noncomputable def peChk (K : Frag) (pe : Nat) : Bool := decide (((K.lookup pe).bind (peClsO pe) = some () ∧ iniK K pe = some ()) ∧ keepIn K (.ref pe) = true ∧ findIn K (.ref pe) "__setattr__" = some (some (.builtin "object.__setattr__")) ∧ ktsIn K pe "BaseException" = true)
noncomputable def globK (K : Frag) (tab : List (Nat × List Nat)) (x : Str) : Option D := ((nsIn K mainGlobals x).bind id).bind (valD K tab 3)
noncomputable def bltK (K : Frag) (tab : List (Nat × List Nat)) (x : Str) : Option D := if nsIn K mainGlobals x = some none then ((nsIn K builtinsNs x).bind id).bind (valD K tab 3) else none
noncomputable def fragAt (h : Nat → Option Obj) (as : List Nat) : Frag := as.filterMap fun a => (h a).map fun o => (a, o)
noncomputable def esOf (o : Obj) : Option (List DictEntry) := match o.data with
 | .dict es _ => some es.toList
 | _ => none
noncomputable def tabAt (K : Frag) : List (Nat × List Nat) := (((K.lookup mainGlobals).bind esOf).map fun l => l.flatMap fun e => tokO (strTok K 3) e.val).getD []
noncomputable def toksOk (tab : List (Nat × List Nat)) (n : Nat) : Bool := tab.all fun p => Nat.blt 0 p.1 && Nat.blt p.1 n
noncomputable def pw := PySem.Challenge.pw_nt0125_01
noncomputable def fnOf (st : Stmt) : MFun := match st with
 | .FunctionDef _ args body _ _ _ scope _ _ _ => ⟨args.args.map (·.arg), scope, body⟩
 | _ => ⟨[], default, []⟩
noncomputable def topAt (i : Nat) : Stmt := (pw.main.body[i]?).getD (.Pass default)
noncomputable def methAt (i j : Nat) : Stmt := match topAt i with
 | .ClassDef _ _ _ body _ _ _ _ _ _ _ => (body[j]?).getD (.Pass default)
 | _ => .Pass default
noncomputable def cp (s : String) : List Nat := (so s).cps.toList
noncomputable def strD (s : String) : D := .str (cp s)
noncomputable def tupS (l : List String) : D := .tup (l.map strD)
noncomputable def ent {α β : Type} (f : α → β) (p : String × α) : Str × β := (so p.1, f p.2)
noncomputable def cls (init : Nat) (froz : Bool) (ms : List (String × Nat)) (ds : List String) : CI := ⟨init, froz, ms.map (ent id), ds.map so⟩
noncomputable def tops (p : Nat × Nat) : Nat × MFun := (p.1, fnOf (topAt p.2))
noncomputable def meths (p : Nat × Nat × Nat) : Nat × MFun := (p.1, fnOf (methAt p.2.1 p.2.2))
noncomputable def globL : List (Str × D) := [("TABLE_KEYS", tupS ["CONSTRAINT", "PRIMARY", "UNIQUE", "CHECK"]), ("COLUMN_KEYS", tupS ["CONSTRAINT", "PRIMARY", "NOT", "NULL", "UNIQUE", "CHECK", "DEFAULT", "COLLATE"]), ("QUOTES", strD "'\"`["), ("BLANKS", strD " \t\n\r\x0c"), ("FIGURES", strD "0123456789"), ("HEX_FIGURES", strD "0123456789abcdefABCDEF"), ("LETTERS", strD "abcdefghijklmnopqrstuvwxyzABCDEFGHIJKLMNOPQRSTUVWXYZ_"), ("NAME_SIGNS", strD "abcdefghijklmnopqrstuvwxyzABCDEFGHIJKLMNOPQRSTUVWXYZ_0123456789$"), ("SIGNS_OF_TWO", tupS ["<=", ">=", "<>", "!=", "==", "||", "<<", ">>"]), ("SIGNS_OF_ONE", strD "(),.;+-*/%=<>&|~"), ("MOST_VARIABLE", .int 999), ("GREATEST", .int 9223372036854775808), ("RESERVED", tupS ["ADD", "ALL", "ALTER", "AND", "AS", "AUTOINCREMENT", "BETWEEN", "CASE", "CHECK", "COLLATE", "COMMIT", "CONSTRAINT", "CREATE", "DEFAULT", "DEFERRABLE", "DELETE", "DISTINCT", "DROP", "ELSE", "ESCAPE", "EXCEPT", "EXISTS", "FOREIGN", "FROM", "GROUP", "HAVING", "IN", "INDEX", "INSERT", "INTERSECT", "INTO", "IS", "ISNULL", "JOIN", "LIMIT", "NOT", "NOTHING", "NOTNULL", "NULL", "ON", "OR", "ORDER", "PRIMARY", "REFERENCES", "RETURNING", "SELECT", "SET", "TABLE", "THEN", "TO", "TRANSACTION", "UNION", "UNIQUE", "UPDATE", "USING", "VALUES", "WHEN", "WHERE"]), ("JOINING", tupS ["CROSS", "FULL", "INDEXED", "INNER", "LEFT", "NATURAL", "OUTER", "RIGHT"]), ("QUOTED_ALWAYS", tupS ["ABORT", "ASC", "BEGIN", "BY", "CAST", "DEFERRED", "DESC", "END", "EXCLUSIVE", "EXPLAIN", "FAIL", "GLOB", "IF", "IGNORE", "IMMEDIATE", "KEY", "LIKE", "OFFSET", "PRAGMA", "RELEASE", "REPLACE", "ROLLBACK", "SAVEPOINT", "TO", "TRANSACTION", "VACUUM", "WITHOUT"])].map (ent id) ++ [("_law_column", 937), ("_law_columns", 916), ("_law_constraint", 930), ("_law_drop", 965), ("_law_if", 944), ("_law_index", 958), ("_law_indexed", 909), ("_law_key", 869), ("_law_keys", 895), ("_law_name", 890), ("_law_named", 876), ("_law_one", 862), ("_law_pool", 848), ("_law_read", 972), ("_law_table", 951), ("_law_take", 855), ("_law_text", 883), ("_law_turned", 902), ("_law_type", 923), ("begins_name", 443), ("folded", 436), ("goes_on_name", 450), ("is_bare", 626), ("law", 979), ("read_size", 262), ("read_type", 255), ("read_words", 618), ("row_of", 28), ("rows_of", 33), ("write_name", 633), ("write_type", 640), ("ColumnDef", 116), ("IndexedColumn", 142), ("TableConstraint", 168), ("CreateTable", 194), ("CreateIndex", 220), ("Drop", 246), ("TableReader", 372), ("ParseError", 425), ("Word", 502), ("Scanner", 607), ("TableWriter", 704), ("WordStream", 837)].map (ent D.glob)
noncomputable def bltL : List (Str × D) := ["len", "ord", "max", "isinstance"].map (fun s => (so s, .bi s)) ++ ["int", "str", "tuple", "range"].map fun s => (so s, .typ s)
noncomputable def fnL : List (Nat × MFun) := [(28, 2), (33, 3), (255, 14), (262, 15), (436, 38), (443, 39), (450, 40), (618, 43), (626, 46), (633, 47), (640, 48), (848, 54), (855, 55), (862, 56), (869, 57), (876, 58), (883, 59), (890, 60), (895, 61), (902, 62), (909, 63), (916, 64), (923, 65), (930, 66), (937, 67), (944, 68), (951, 69), (958, 70), (965, 71), (972, 72), (979, 73)].map tops ++ [(106, 7, 0), (113, 7, 1), (132, 8, 0), (139, 8, 1), (158, 9, 0), (165, 9, 1), (184, 10, 0), (191, 10, 1), (210, 11, 0), (217, 11, 1), (236, 12, 0), (243, 12, 1), (278, 19, 0), (285, 19, 1), (292, 19, 2), (299, 19, 3), (306, 19, 4), (313, 19, 5), (320, 19, 6), (327, 19, 7), (334, 19, 8), (341, 19, 9), (348, 19, 10), (355, 19, 11), (362, 19, 12), (369, 19, 13), (422, 23, 0), (464, 41, 0), (471, 41, 1), (478, 41, 2), (485, 41, 3), (492, 41, 4), (499, 41, 5), (520, 42, 0), (527, 42, 1), (534, 42, 2), (541, 42, 3), (548, 42, 4), (555, 42, 5), (562, 42, 6), (569, 42, 7), (576, 42, 8), (583, 42, 9), (590, 42, 10), (597, 42, 11), (604, 42, 12), (654, 50, 0), (661, 50, 1), (668, 50, 2), (675, 50, 3), (682, 50, 4), (689, 50, 5), (694, 50, 6), (701, 50, 7), (722, 52, 0), (729, 52, 1), (736, 52, 2), (743, 52, 3), (750, 52, 4), (757, 52, 5), (764, 52, 6), (771, 52, 7), (778, 52, 8), (785, 52, 9), (792, 52, 10), (799, 52, 11), (806, 52, 12), (813, 52, 13), (820, 52, 14), (827, 52, 15), (834, 52, 16)].map meths
noncomputable def clsL : List (Nat × CI) := [(116, cls 106 true [("row", 113)] ["name", "type_name", "constraints"]),
 (142, cls 132 true [("row", 139)] ["name", "collation", "descending"]),
 (168, cls 158 true [("row", 165)] ["kind", "columns", "check"]),
 (194, cls 184 true [("row", 191)] ["name", "columns", "constraints", "if_missing", "text"]),
 (220, cls 210 true [("row", 217)] ["name", "table", "columns", "unique", "if_missing", "text"]),
 (246, cls 236 true [("row", 243)] ["kind", "name", "if_exists"]),
 (372, cls 278 false [("drop", 285), ("create", 292), ("if_missing", 299), ("written", 306), ("create_index", 313), ("indexed_columns", 320), ("indexed_column", 327), ("is_descending", 334), ("create_table", 341), ("column_def", 348), ("column_constraint", 355), ("default", 362), ("table_constraint", 369)] ["stream", "expressions"]),
 (502, cls 464 true [("is_sign", 471), ("is_key", 478), ("is_free", 485), ("is_plain", 492), ("row", 499)] ["kind", "text", "value", "place"]),
 (607, cls 520 false [("gather", 527), ("refuse", 534), ("run", 541), ("end_of", 548), ("bare", 555), ("closing", 562), ("quoted_word", 569), ("blob", 576), ("number", 583), ("value_of", 590), ("mark", 597), ("variable", 604)] ["text", "place", "found", "greatest"]),
 (704, cls 654 false [("write", 661), ("keys", 668), ("column_constraint", 675), ("column_def", 682), ("table_constraint", 689), ("create_table", 694), ("create_index", 701)] ["expressions"]),
 (837, cls 722 false [("here", 729), ("ahead", 736), ("go", 743), ("refuse", 750), ("is_over", 757), ("is_key", 764), ("is_sign", 771), ("is_one_of", 778), ("is_select", 785), ("take_key", 792), ("take_sign", 799), ("need_key", 806), ("need_sign", 813), ("need_name", 820), ("deeper", 827), ("higher", 834)] ["text", "words", "at", "depth"])]
noncomputable def subL : List ((Nat × Nat) × Bool) := [((194, 194), true), ((220, 194), false), ((246, 194), false), ((220, 220), true), ((246, 220), false)]
noncomputable def asL : List Nat := [0, 2, 3, 20, 21, 27, 28, 32, 33, 46, 47, 49, 50, 63, 64, 79, 80, 86, 87, 89, 90, 105, 106, 112, 113, 115, 116, 131, 132, 138, 139, 141, 142, 157, 158, 164, 165, 167, 168, 183, 184, 190, 191, 193, 194, 209, 210, 216, 217, 219, 220, 235, 236, 242, 243, 245, 246, 254, 255, 261, 262, 263, 264, 277, 278, 284, 285, 291, 292, 298, 299, 305, 306, 312, 313, 319, 320, 326, 327, 333, 334, 340, 341, 347, 348, 354, 355, 361, 362, 368, 369, 371, 372, 389, 390, 392, 393, 405, 406, 421, 422, 424, 425, 428, 430, 431, 435, 436, 442, 443, 449, 450, 463, 464, 470, 471, 477, 478, 484, 485, 491, 492, 498, 499, 501, 502, 519, 520, 526, 527, 533, 534, 540, 541, 547, 548, 554, 555, 561, 562, 568, 569, 575, 576, 582, 583, 589, 590, 596, 597, 603, 604, 606, 607, 617, 618, 619, 625, 626, 632, 633, 639, 640, 653, 654, 660, 661, 667, 668, 674, 675, 681, 682, 688, 689, 693, 694, 700, 701, 703, 704, 721, 722, 728, 729, 735, 736, 742, 743, 749, 750, 756, 757, 763, 764, 770, 771, 777, 778, 784, 785, 791, 792, 798, 799, 805, 806, 812, 813, 819, 820, 826, 827, 833, 834, 836, 837, 847, 848, 854, 855, 861, 862, 868, 869, 875, 876, 882, 883, 889, 890, 894, 895, 901, 902, 908, 909, 915, 916, 922, 923, 929, 930, 936, 937, 943, 944, 950, 951, 957, 958, 964, 965, 971, 972, 978, 979]
noncomputable def TB0 : TB := ⟨globL, bltL, fnL, clsL, subL, [848, 80, 106, 132, 158, 184, 210, 236, 278, 390, 422, 464, 520, 654, 722], 425⟩
noncomputable def KS (h : Nat → Option Obj) : Frag := fragAt h asL
noncomputable def obs1 (K : Frag) (n : Nat) : Bool := decide ((∀ p ∈ TB0.clss, ClsChk K p.1 p.2) ∧ ∀ p ∈ TB0.subs, subK K p.1.1 p.1.2 = some p.2) && (peChk K TB0.pe && (toksOk (tabAt K) n && Nat.blt 0 n))
noncomputable def obs2 (K : Frag) := (TB0.fns.map (fun p => fnK K p.1), TB0.globs.map (fun p => globK K (tabAt K) p.1), TB0.blts.map fun p => bltK K (tabAt K) p.1)
noncomputable def exp2 := (TB0.fns.map fun p => some p.2, TB0.globs.map fun p => some p.2, TB0.blts.map fun p => some p.2)
noncomputable def topRunT (p : Program) (w : World) (n₀ : Nat) (ann : Option Value) : Nat → SharedT → Thread → Option SharedT
 | 0, _, _ => none
 | n + 1, s, t => match through t with
  | true => some s
  | false => match stepOk n₀ ann t with
   | false => none
   | true => match PySem.W.Fast.tw10156331382660048174 (PySem.W.Fast.tw11892475500146522536 PySem.W.Fast.tw14364793385576792824) p w s t with
    | some (s', t') => topRunT p w n₀ ann n s' t'
    | none => none
noncomputable def bt (P : Params) (l : List (Params → Obj)) : Nat → Nat → Nat → BT
 | 0, _, _ => .nil
 | k+1, a, b => match l[b]? with
  | some o => .node (o P) (bt P l k (2*a) (a+b)) (bt P l k (2*a) (2*a+b))
  | none => .nil
noncomputable def bootT (P : Params) : BT := bt P [boot_o_0, boot_o_1, boot_o_2, boot_o_3, boot_o_4, boot_o_5, boot_o_6, boot_o_7, boot_o_8, boot_o_9, boot_o_10] 20 1 0
noncomputable def S0 (P : Params) (os : OsState) : SharedT := ⟨bootT P, 11, {}, #[], boot_drawn, boot_toks, os⟩
noncomputable def qv : Program := { pw with main := { pw.main with body := (pw.main.body[73]?).toList } }
noncomputable def topNames (b : List Stmt) : List Str := b.filterMap fun
 | .FunctionDef name .. => some name
 | .ClassDef name .. => some name
 | .Assign [.Name x _] _ _ => some x
 | _ => none
noncomputable def lsv : List Str := (topNames (pw.main.body.take 73)).filter fun x => x != "__name__"
noncomputable def getT (S : SharedT) (a : Nat) : Option Obj := match Nat.blt a S.n with
 | true => (match S.tree.get a with | some o => alive o | none => alive default)
 | false => none
noncomputable def seeA (P : Params) (S : SharedT) :=
 (staticsOk (importedModules pw.main.body) (boot_heap P) S.abs.heap && namesBound pw S.abs.heap && gensDone S.abs && laidKept (boot_heap P) S.abs.heap,
  PySem.W.Fast.tw4187177175401517315 qv lsv (importedModules pw.main.body) (fun s => xlAt qv [] s && recOk [] s) true S.abs)
noncomputable def see1 (S : SharedT) := obs1 (KS (getT S)) S.toks
noncomputable def see2 (S : SharedT) := obs2 (KS (getT S))
noncomputable abbrev runB {α : Type} (b : Bool) (w : World) (os : OsState) (f : SharedT → α) : Option α := (topRunT pw (w.withFollow "special-get-raises" b) 11 (some (.ref 6)) 8000 (S0 w.params os) (topStub pw)).map f
theorem tAf : ∀ (w : World) (os : OsState), runB false w os (seeA w.params) = some (true, openGood qv lsv) := by
 intro w os
 kernel_rfl
theorem t1f : ∀ (w : World) (os : OsState), runB false w os see1 = some true := by
 intro w os
 kernel_rfl
theorem t2f : ∀ (w : World) (os : OsState), runB false w os see2 = some exp2 := by
 intro w os
 kernel_rfl
theorem tAt : ∀ (w : World) (os : OsState), runB true w os (seeA w.params) = some (true, openGood qv lsv) := by
 intro w os
 kernel_rfl
theorem t1t : ∀ (w : World) (os : OsState), runB true w os see1 = some true := by
 intro w os
 kernel_rfl
theorem t2t : ∀ (w : World) (os : OsState), runB true w os see2 = some exp2 := by
 intro w os
 kernel_rfl
theorem said_top : Fast.tw12908688711261696721 (Fast.tw2368527892694137696 PySem.Challenge.rw_nt0125_01).prog = true := by kernel_rfl
theorem said_row : Fast.tw17960256430627541270 (Fast.tw2368527892694137696 PySem.Challenge.rw_nt0125_01) = true := by
 delta Fast.tw17960256430627541270
 refine look_both (look_both ?_ (by kernel_rfl)) (by kernel_rfl)
 delta Fast.tw2436336058641802641
 iterate 13 refine look_both ?_ (by kernel_rfl)
 exact said_top
theorem law_said : PySem.Challenge.rw_nt0125_01.wellSaid = true := by
 have h : Fast.tw9446332074065402090 PySem.Challenge.rw_nt0125_01 = true := by
  delta Fast.tw9446332074065402090
  iterate 18 refine look_both ?_ (by kernel_rfl)
  exact said_row
 rw [← Fast.te9446332074065402090] at h
 exact h
end
section
open PySem
noncomputable section
inductive MV where
 | d (x : D) | ref (n : Nat) | tup (l : List MV)
 deriving Inhabited
inductive MObj where
 | gone | list (l : List MV) | inst (c : Nat) (fs : List (Str × MV))
 deriving Inhabited
structure MSt where
 next : Nat
 objs : Nat → MObj
inductive O (α : Type) where
 | bad | exc | ok (a : α) (s : MSt)
abbrev M (α : Type) := MSt → O α
noncomputable def M.pure {α : Type} (a : α) : M α := fun s => .ok a s
noncomputable def M.bind {α β : Type} (m : M α) (f : α → M β) : M β := fun s => match m s with
 | .bad => .bad | .exc => .exc | .ok a s' => f a s'
noncomputable def M.bad {α : Type} : M α := fun _ => .bad
noncomputable def M.opt {α : Type} (o : Option α) : M α := fun s => match o with | some a => .ok a s | none => .bad
abbrev LEnv := Str → Option MV
noncomputable def LEnv.set (le : LEnv) (x : Str) (v : MV) : LEnv := fun y => if y = x then some v else le y
structure ClsInfo where
 init : Nat
 froz : Bool
 meth : Str → Option Nat
 data : Str → Bool
structure Tab where
 glob : Str → Option D
 blt : Str → Option D
 fn : Nat → Option MFun
 cls : Nat → Option ClsInfo
 keep : Nat → Bool
 pe : Nat
 sub : Nat → Nat → Option Bool
structure Cfg where
 T : Tab
 K : Nat
 call : Nat → List MV → M MV
noncomputable def upd (f : Nat → MObj) (n : Nat) (o : MObj) : Nat → MObj := fun m => if m = n then o else f m
noncomputable def alloc (o : MObj) : M MV := fun s => .ok (.ref s.next) ⟨s.next + 1, upd s.objs s.next o⟩
noncomputable def setObj (n : Nat) (o : MObj) : M Unit := fun s => .ok () ⟨s.next, upd s.objs n o⟩
noncomputable def allD : List MV → Option (List D)
 | [] => some []
 | .d x :: r => (allD r).map (x :: ·)
 | _ :: _ => none
noncomputable def mkTup (l : List MV) : MV := match allD l with | some ds => .d (.tup ds) | none => .tup l
noncomputable def cval : Const → Option D
 | .none => some .none
 | .bool b => some (.bool b)
 | .int i => some (.int i)
 | .str s => some (.str s.cps.toList)
 | _ => none
noncomputable def evName (T : Tab) (sc : Scope) (id : Str) (le : LEnv) : Option MV :=
 if id = so "__debug__" ∨ id = so "__classdict__" then none else
 match sc.names.lookup id with
 | some .local | some .cell | some .free => le id
 | some .globalImplicit => (match T.glob id with | some d => some d | none => T.blt id).map .d
 | _ => none
noncomputable def truth? : MV → Option Bool
 | .d .none => some false
 | .d (.bool b) => some b
 | _ => none
noncomputable def truth (v : MV) : M Bool := M.opt (truth? v)
noncomputable def lOf (v : MV) : MSt → Option (List MV) := fun s => match v with
 | .d (.lst l) => some (l.map .d)
 | .ref n => (match s.objs n with | .list l => some l | _ => none)
 | _ => none
noncomputable def cap : Nat := 2 ^ 20
noncomputable def mkStr (l : List Nat) : M MV := fun s => if l.length ≤ cap then .ok (.d (.str l)) s else .bad
noncomputable def mkList (l : List MV) : M MV := fun s => if l.length ≤ cap then alloc (.list l) s else .bad
noncomputable def small (i : Int) : Bool := decide (-(2 ^ 64) < i) && decide (i < 2 ^ 64)
noncomputable def MV.int? : MV → Option Int
 | .d (.int i) => some i
 | _ => none
noncomputable def MV.str? : MV → Option (List Nat)
 | .d (.str l) => some l
 | _ => none
noncomputable def arith (f : Int → Int → Option Int) (a b : MV) : M MV := match a.int?, b.int? with
 | some x, some y => M.opt ((f x y).map fun z => .d (.int z))
 | _, _ => M.bad
noncomputable def addL (a b : MV) : M MV := fun s => match lOf a s, lOf b s with
  | some x, some y => mkList (x ++ y) s
  | _, _ => .bad
noncomputable def addS (a b : MV) : M MV := match a.str?, b.str? with
 | some x, some y => mkStr (x ++ y)
 | _, _ => addL a b
noncomputable def addV (a b : MV) : M MV := match a.int?, b.int? with
 | some x, some y => M.pure (.d (.int (x + y)))
 | _, _ => addS a b
noncomputable def binop (op : Operator) : MV → MV → M MV := match op with
 | .Add => addV
 | .Sub => arith fun x y => some (x - y)
 | .Mult => arith fun x y => if small x || small y then some (x * y) else none
 | .Mod => arith fun x y => if 0 < y then some (x % y) else none
 | .FloorDiv => arith fun x y => if 0 < y ∧ y < 2 ^ 62 then some (x / y) else none
 | .Pow => arith fun x y => if x = 10 ∧ y = 18 then some (10 ^ 18) else none
 | _ => fun _ _ => M.bad
noncomputable def isSub (p : List Nat) : List Nat → Bool
 | [] => p.isEmpty
 | c :: t => p.isPrefixOf (c :: t) || isSub p t
noncomputable def strsD : List D → Option (List (List Nat))
 | [] => some []
 | .str y :: r => (strsD r).map (y :: ·)
 | _ => none
noncomputable def strEqAny (x : List Nat) (l : List D) : Option Bool := (strsD l).map fun ys => ys.any fun y => decide (x = y)
noncomputable def plainD : Nat → D → Bool
 | _, .none | _, .bool _ | _, .int _ | _, .str _ => true
 | k + 1, .tup l => l.all (plainD k)
 | _, _ => false
def eqT (a b : List D) : Option Bool := open Classical in if a = b ∧ plainD 9 (.tup a) = true then some true else none
def eqD (a b : D) : Option Bool := match a with
 | .int x => (match b with | .int y => some (decide (x = y)) | _ => none)
 | .str x => (match b with | .str y => some (decide (x = y)) | _ => none)
 | .tup x => (match b with | .tup y => eqT x y | _ => none)
 | _ => none
noncomputable def cInt (f : Int → Int → Bool) (a b : MV) : Option Bool := match a.int?, b.int? with
 | some x, some y => some (f x y)
 | _, _ => none
noncomputable def none? : MV → Option Bool
 | .d .none => some true
 | .d (.inst _ _) => some false
 | .d (.tup _) => some false
 | .d (.str _) => some false
 | _ => none
noncomputable def nil? : MObj → Bool
 | .list [] => true
 | _ => false
def cEq (a b : MV) (s : MSt) : Option Bool := match b with
 | .ref n => if nil? (s.objs n) then (lOf a s).map (·.isEmpty) else none
 | .d y => (match a with | .d x => eqD x y | _ => none)
 | _ => none
noncomputable def cIs (a b : MV) : Option Bool := match b with
 | .d .none => none? a
 | _ => none
noncomputable def cIn (a b : MV) (s : MSt) : Option Bool := match a.str? with
 | none => none
 | some x => match b with
  | .d (.str y) => some (isSub x y)
  | .d (.tup y) => strEqAny x y
  | .ref n => ((lOf (.ref n) s).bind allD).bind (strEqAny x)
  | _ => none
noncomputable def cNi (a b : MV) : Option Bool := match b with
 | .d _ => (cIn a b ⟨0, fun _ => .gone⟩).map (!·)
 | _ => none
def cmp (op : CmpOp) (a b : MV) (s : MSt) : Option Bool := match op with
 | .Eq => cEq a b s
 | .NotEq => (cEq a b s).map (!·)
 | .Lt => cInt (fun x y => decide (x < y)) a b
 | .LtE => cInt (fun x y => decide (x ≤ y)) a b
 | .Gt => cInt (fun x y => decide (y < x)) a b
 | .GtE => cInt (fun x y => decide (y ≤ x)) a b
 | .Is => cIs a b
 | .IsNot => (cIs a b).map (!·)
 | .In => cIn a b s
 | .NotIn => cNi a b
noncomputable def pick {α : Type} (f : α → MV) (l : List α) (k : Int) : M MV := if 0 ≤ k ∧ k < 2 ^ 62 then M.opt (l[k.toNat]?.map f) else M.bad
noncomputable def itemOf (a : MV) (k : Int) : M MV := match a with
 | .d (.str l) => pick (fun c => .d (.str [c])) l k
 | .d (.tup l) => pick .d l k
 | a => fun s => match lOf a s with
  | some l => pick id l k s
  | none => .bad
noncomputable def getItem (a i : MV) : M MV := match i.int? with
 | some k => itemOf a k
 | none => M.bad
noncomputable def bound : Option D → Option (Option Nat)
 | none => some none
 | some (.int i) => if 0 ≤ i then some (some i.toNat) else none
 | _ => none
noncomputable def cut {α : Type} (l : List α) (lo hi : Option Nat) : List α := (match hi with | some h => l.take h | none => l).drop (lo.getD 0)
noncomputable def sliceOf (a : MV) (lo hi : Option Nat) : M MV := match a.str? with
 | some l => if l.length ≤ cap then M.pure (.d (.str (cut l lo hi))) else M.bad
 | none => fun s => match lOf a s with
  | some l => if l.length ≤ cap then mkList (cut l lo hi) s else .bad
  | none => .bad
noncomputable def getSlice (a : MV) (lo hi : Option D) : M MV := match bound lo with
 | none => M.bad
 | some lo => match bound hi with
  | none => M.bad
  | some hi => sliceOf a lo hi
noncomputable def okField : MV → Bool
 | .d (.bi _) => false
 | _ => true
noncomputable def instOf (v : MV) (s : MSt) : Option (Nat × List (Str × MV)) := match v with
 | .ref n => (match s.objs n with | .inst c fs => some (c, fs) | _ => none)
 | .d (.inst c fs) => some (c, fs.map fun p => (p.1, .d p.2))
 | _ => none
noncomputable def fieldOf (ci : ClsInfo) (fs : List (Str × MV)) (attr : Str) : Option MV := if ci.data attr then (fs.lookup attr).filter okField else none
noncomputable def getField (T : Tab) (v : MV) (attr : Str) (s : MSt) : Option MV := (instOf v s).bind fun p => (T.cls p.1).bind fun ci => fieldOf ci p.2 attr
noncomputable def setFields (fs : List (Str × MV)) (x : Str) (v : MV) : List (Str × MV) := match fs with
 | [] => [(x, v)]
 | (y, w) :: r => if y = x then (y, v) :: r else (y, w) :: setFields r x v
noncomputable def frz : Nat → MV → MSt → Option (D × MSt)
 | 0, _, _ => none
 | _ + 1, .d x, s => some (x, s)
 | k + 1, .ref n, s => match s.objs n with
  | .list l => (l.foldr (fun v acc => acc.bind fun p => (frz k v p.2).map fun q => (q.1 :: p.1, q.2)) (some ([], s))).map fun p => (.lst p.1, ⟨p.2.next, upd p.2.objs n .gone⟩)
  | _ => none
 | k + 1, .tup l, s => (l.foldr (fun v acc => acc.bind fun p => (frz k v p.2).map fun q => (q.1 :: p.1, q.2)) (some ([], s))).map fun p => (.tup p.1, p.2)
noncomputable def frzs (k : Nat) : List (Str × MV) → MSt → Option (List (Str × D) × MSt)
 | [], s => some ([], s)
 | (x, v) :: r, s => (frz k v s).bind fun q => (frzs k r q.2).map fun p => ((x, q.1) :: p.1, p.2)
noncomputable def above (n : Nat) (f : Nat → MObj) : Nat → MObj := fun m => if m < n then f m else .gone
noncomputable def handBack (n : Nat) (v : MV) : M MV := fun s => match frz 6 v s with
 | some (x, s') => .ok (.d x) ⟨s'.next, above n s'.objs⟩
 | none => .bad
noncomputable def frzInst (cl n : Nat) : M MV := fun s => match s.objs n with
 | .inst k fs => if k = cl then (match frzs 6 fs ⟨s.next, upd s.objs n .gone⟩ with
  | some p => .ok (.d (.inst cl p.1)) ⟨p.2.next, above n p.2.objs⟩
  | none => .bad) else .bad
 | _ => .bad
noncomputable def initM (froz : Bool) (cl n : Nat) (v : MV) : M MV := match v with
 | .d .none => if froz then frzInst cl n else M.pure (.ref n)
 | _ => M.bad
noncomputable def newInst (c : Cfg) (cl : Nat) (ci : ClsInfo) (args : List MV) : M MV := fun s =>
 M.bind (c.call ci.init (.ref s.next :: args)) (initM ci.froz cl s.next) ⟨s.next + 1, upd s.objs s.next (.inst cl [])⟩
noncomputable def strOfNat (n : Nat) : List Nat := (Nat.toDigits 10 n).map Char.toNat
noncomputable def numOf (l : List Nat) : Nat := l.foldl (fun a c => a * 10 + (c - 48)) 0
noncomputable def rangeItems (n : Nat) : List MV := (List.range n).map fun (i : Nat) => .d (.int (i : Int))
noncomputable def clsOf (v : MV) (s : MSt) : Option Nat := (instOf v s).map (·.1)
noncomputable def isInst (T : Tab) (v cl : MV) : MSt → Option Bool := fun s => match cl with
 | .d (.glob a) => (clsOf v s).bind fun k => T.sub k a
 | _ => none
noncomputable def biLen (v : MV) : M MV := match v.str? with
 | some l => if l.length ≤ cap then M.pure (.d (.int l.length)) else M.bad
 | none => fun s => match lOf v s with | some l => if l.length ≤ cap then .ok (.d (.int l.length)) s else .bad | none => .bad
noncomputable def biOrd (v : MV) : M MV := M.opt ((v.str?.bind one?).map fun c => .d (.int c))
noncomputable def biMax (v w : MV) : M MV := match v.int?, w.int? with
 | some a, some b => M.pure (.d (.int (if a < b then b else a)))
 | _, _ => M.bad
noncomputable def biInst (T : Tab) (v cl : MV) : M MV := fun s => match isInst T v cl s with | some b => .ok (.d (.bool b)) s | none => .bad
noncomputable def on1 {β : Type} (f : MV → M β) (args : List MV) : M β := match one? args with | some v => f v | none => M.bad
noncomputable def on2 (f : MV → MV → M MV) (args : List MV) : M MV := match two? args with | some p => f p.1 p.2 | none => M.bad
noncomputable def callBi (T : Tab) (name : String) (args : List MV) : M MV :=
 if name = "len" then on1 biLen args else
 if name = "ord" then on1 biOrd args else
 if name = "max" then on2 biMax args else
 if name = "isinstance" then on2 (biInst T) args else M.bad
noncomputable def bool? : MV → Option Bool
 | .d (.bool b) => some b
 | _ => none
noncomputable def tyInt1 (v : MV) : M MV := match v.int? with
 | some i => M.pure (.d (.int i))
 | none => M.opt ((bool? v).map fun b => .d (.int (if b then 1 else 0)))
noncomputable def tyInt2 (v w : MV) : M MV := match v.str?, w.int? with
 | some l, some b => if b = 10 ∧ (!l.isEmpty && l.all (fun c => 48 ≤ c && c ≤ 57) && decide (l.length ≤ 20)) = true then M.pure (.d (.int (numOf l))) else M.bad
 | _, _ => M.bad
noncomputable def tyInt (args : List MV) : M MV := match one? args with
 | some v => tyInt1 v
 | none => on2 tyInt2 args
noncomputable def tyStr (v : MV) : M MV := match v.int? with
 | some i => if 0 ≤ i ∧ i < 10 ^ 18 then M.pure (.d (.str (strOfNat i.toNat))) else M.bad
 | none => M.bad
noncomputable def tyTup (v : MV) : M MV := fun s => match lOf v s with | some l => if l.length ≤ cap then .ok (mkTup l) s else .bad | none => .bad
noncomputable def callTyp (name : String) (args : List MV) : M MV :=
 if name = "int" then tyInt args else
 if name = "str" then on1 tyStr args else
 if name = "tuple" then on1 tyTup args else M.bad
noncomputable def lowerA (l : List Nat) : List Nat := l.map fun c => if 65 ≤ c && c ≤ 90 then c + 32 else c
noncomputable def upperA (l : List Nat) : List Nat := l.map fun c => if 97 ≤ c && c ≤ 122 then c - 32 else c
noncomputable def ascii (l : List Nat) : Bool := l.all (· < 128)
noncomputable def findFrom (l p : List Nat) (b : Int) : Int := match Builtin.Str.occurrences (⟨l.toArray⟩ : PySem.Str) ⟨p.toArray⟩ (fromIndex l.length b) l.length 1 with
 | k :: _ => (k : Int)
 | [] => -1
noncomputable def repl1 (q : Nat) (r : List Nat) (l : List Nat) : List Nat := l.flatMap fun c => if c = q then r else [c]
noncomputable def splitL (q : Nat) (l : List Nat) : List (List Nat) := (Txt.split ⟨l.toArray⟩ ⟨#[q]⟩).map fun p => p.cps.toList
noncomputable def joinL (sep : List Nat) : List (List Nat) → List Nat
 | [] => []
 | [x] => x
 | x :: r => x ++ sep ++ joinL sep r
noncomputable def strsOf : List MV → Option (List (List Nat))
 | [] => some []
 | .d (.str x) :: r => (strsOf r).map (x :: ·)
 | _ => none
noncomputable def rstripL (l : List Nat) : List Nat := (PySem.stripped Unicode.isSpace false true ⟨l.toArray⟩).cps.toList
noncomputable def lstripZ (l : List Nat) : List Nat := (PySem.stripped (#[48] : Array Nat).contains true false ⟨l.toArray⟩).cps.toList
inductive SM where
 | lower | upper | isascii | find | replace | split | join | rstrip | lstrip
noncomputable def smName : SM → Str
 | .lower => so "lower" | .upper => so "upper" | .isascii => so "isascii" | .find => so "find" | .replace => so "replace"
 | .split => so "split" | .join => so "join" | .rstrip => so "rstrip" | .lstrip => so "lstrip"
noncomputable def smOf (name : Str) : Option SM := [SM.lower, .upper, .isascii, .find, .replace, .split, .join, .rstrip, .lstrip].find? fun m => name == smName m
noncomputable def on0 (m : M MV) (args : List MV) : M MV := match args with | [] => m | _ => M.bad
noncomputable def smFind (l : List Nat) (v w : MV) : M MV := match v.str?, w.int? with
 | some p, some b => M.pure (.d (.int (findFrom l p b)))
 | _, _ => M.bad
noncomputable def smRepl (l : List Nat) (v w : MV) : M MV := match v.str?.bind one?, w.str? with
 | some q, some r => if r = [q, q] ∧ l.length ≤ cap then mkStr (repl1 q [q, q] l) else M.bad
 | _, _ => M.bad
noncomputable def smSplit (l : List Nat) (v : MV) : M MV := match v.str?.bind one? with
 | some q => if cap < l.length then M.bad else mkList ((splitL q l).map fun w => .d (.str w))
 | none => M.bad
noncomputable def smJoin (l : List Nat) (v : MV) : M MV := fun s => match (lOf v s).bind strsOf with | some ws => if (ws.map (·.length)).sum + ws.length * l.length ≤ cap then mkStr (joinL l ws) s else .bad | none => .bad
noncomputable def smLstrip (l : List Nat) (v : MV) : M MV := if v.str? = some [48] then mkStr (lstripZ l) else M.bad
noncomputable def ifA (l : List Nat) (m : M MV) : M MV := if ascii l then m else M.bad
noncomputable def strMeth (m : SM) (l : List Nat) : List MV → M MV := match m with
 | .lower => on0 (ifA l (mkStr (lowerA l)))
 | .upper => on0 (ifA l (mkStr (upperA l)))
 | .isascii => on0 (M.pure (.d (.bool (ascii l))))
 | .find => on2 (smFind l)
 | .replace => on2 (smRepl l)
 | .split => on1 (smSplit l)
 | .join => on1 (smJoin l)
 | .rstrip => on0 (mkStr (rstripL l))
 | .lstrip => on1 (smLstrip l)
noncomputable def callGlob (c : Cfg) (a : Nat) (args : List MV) : M MV := match c.T.fn a with
 | some _ => c.call a args
 | none => match c.T.cls a with
  | some ci => newInst c a ci args
  | none => M.bad
noncomputable def callVal (c : Cfg) (f : MV) (args : List MV) : M MV := match f with
 | .d (.glob a) => callGlob c a args
 | .d (.bi n) => callBi c.T n args
 | .d (.typ n) => callTyp n args
 | _ => M.bad
inductive Meth | str (m : SM) (l : List Nat) | fn (f : Nat) (o : MV) | app (n : Nat)
noncomputable def appOf (o : MV) (s : MSt) : Option Meth := match o with
 | .ref n => (match s.objs n with | .list _ => some (.app n) | _ => none)
 | _ => none
noncomputable def ownMeth (ci : ClsInfo) (fs : List (Str × MV)) (o : MV) (name : Str) : Option Meth := if (fs.lookup name).isSome then none else (ci.meth name).map fun f => .fn f o
noncomputable def methOf (T : Tab) (o : MV) (name : Str) (s : MSt) : Option Meth := match o.str? with
 | some l => (smOf name).map fun m => .str m l
 | none => match instOf o s with
  | some p => (T.cls p.1).bind fun ci => ownMeth ci p.2 o name
  | none => if name = so "append" then appOf o s else none
noncomputable def appM (n : Nat) (v : MV) : M MV := fun s => match s.objs n with
 | .list l => if l.length < cap then .ok (.d .none) ⟨s.next, upd s.objs n (.list (l ++ [v]))⟩ else .bad
 | _ => .bad
noncomputable def runMeth (c : Cfg) (m : Meth) (args : List MV) : M MV := match m with
 | .str m l => strMeth m l args
 | .fn f o => c.call f (o :: args)
 | .app n => on1 (appM n) args
noncomputable def notStar : Expr → Bool
 | .Starred _ _ => false
 | _ => true
noncomputable def plainArgs (es : List Expr) : Bool := es.all notStar && decide (es.length < 29)
noncomputable def plainBase : Expr → Bool
 | .Call (.Name _ _) [] [] _ => false
 | _ => true
noncomputable def compEnv (cs : Scope) (le : LEnv) (x : Str) (v : MV) : LEnv := fun y => if y = x then some v else if cs.names.lookup y = some .free then le y else none
noncomputable def compOk (sc cs : Scope) (x : Str) : Bool := cs.kind == .function && cs.names.lookup x == some .local &&
 cs.names.all fun p => p.2 != .cell && (p.2 != .local || cs.names.lookup p.1 == some .local) && (p.2 != .free || sc.names.lookup p.1 == some .cell || sc.names.lookup p.1 == some .free)
inductive Fl where | next | ret (v : MV)
noncomputable def noExc {α : Type} (m : M α) : M α := fun s => match m s with | .exc => .bad | r => r
noncomputable def gather (f : MV → M MV) : List MV → M (List MV)
 | [] => M.pure []
 | x :: r => M.bind (f x) fun v => M.bind (gather f r) fun vs => M.pure (v :: vs)
def cmpM (op : CmpOp) (a b : MV) : M Bool := fun s => match cmp op a b s with | some t => .ok t s | none => .bad
noncomputable def optM {α : Type} (f : MSt → Option α) : M α := fun s => match f s with | some x => .ok x s | none => .bad
noncomputable def frzM (v : MV) : M (List D) := fun s => match frz 6 v s with
 | some (.lst l, s') => .ok l s'
 | _ => .bad
noncomputable def stopAt (op : BoolOp) (t : Bool) : Bool := match op with | .And => !t | .Or => t
mutual
def evt (c : Cfg) : Expr → Scope → LEnv → M MV × M Bool
 | .Constant k _ _, _, _ => let v := M.opt ((cval k).map .d); (v, M.bind v truth)
 | .Name id _, sc, le => let v := M.opt (evName c.T sc id le); (v, M.bind v truth)
 | .BoolOp op vs _, sc, le => (evBool c op vs sc le, tsts c op vs sc le)
 | .BinOp l op r _, sc, le => let v := M.bind (evt c l sc le).1 fun a => M.bind (evt c r sc le).1 fun b => binop op a b; (v, M.bind v truth)
 | .UnaryOp op x _, sc, le => match op with
  | .Not => (M.bind (evt c x sc le).1 fun v => M.bind (truth v) fun t => M.pure (.d (.bool !t)), M.bind (evt c x sc le).2 fun t => M.pure !t)
  | .USub => let v := M.bind (evt c x sc le).1 fun v => M.opt (v.int?.map fun i => .d (.int (-i))); (v, M.bind v truth)
  | _ => (M.bad, M.bad)
 | .IfExp t a b _, sc, le => (M.bind (evt c t sc le).2 fun x => if x then (evt c a sc le).1 else (evt c b sc le).1, M.bad)
 | .List es _, sc, le => let v := if plainArgs es then M.bind (evs c es sc le) mkList else M.bad; (v, M.bind v truth)
 | .Tuple es _ _, sc, le => let v := if plainArgs es then M.bind (evs c es sc le) fun vs => M.pure (mkTup vs) else M.bad; (v, M.bind v truth)
 | .Compare l ops rs _, sc, le => let t := match ops with
   | [op] => (match rs with
    | [r] => M.bind (evt c l sc le).1 fun a => M.bind (evt c r sc le).1 fun b => cmpM op a b
    | _ => M.bad)
   | _ => M.bad
  (M.bind t fun b => M.pure (.d (.bool b)), t)
 | .Attribute v attr _, sc, le => let v := if plainBase v then M.bind (evt c v sc le).1 fun o => optM (getField c.T o attr) else M.bad; (v, M.bind v truth)
 | .Subscript v i _, sc, le => let v := M.bind (evt c v sc le).1 (match i with
   | .Slice lo hi st _ => (match st with
    | none => fun o => M.bind (evOpt c lo sc le) fun l => M.bind (evOpt c hi sc le) fun h => getSlice o l h
    | _ => fun _ => M.bad)
   | i => fun o => M.bind (evt c i sc le).1 fun k => getItem o k); (v, M.bind v truth)
 | .Call f args kws pos, sc, le => let v := match kws with
   | [] => if plainArgs args then (match f with
    | .Attribute o name apos => if plainBase o ∧ apos.endLine = pos.line then M.bind (evt c o sc le).1 fun ov => M.bind (optM (methOf c.T ov name)) fun m => M.bind (evs c args sc le) (runMeth c m) else M.bad
    | f => M.bind (evt c f sc le).1 fun fv => M.bind (evs c args sc le) fun vs => callVal c fv vs) else M.bad
   | _ => M.bad
  (v, M.bind v truth)
 | .ListComp e gs cs _, sc, le => let v := match gs with
   | [⟨t, it, ifs, a⟩] => (match t with
    | .Name x _ => if ifs.isEmpty = true ∧ a = 0 ∧ compOk sc cs x = true then M.bind (evt c it sc le).1 fun iv => M.bind (frzM iv) fun l => M.bind (noExc (gather (fun v => (evt c e cs (compEnv cs le x v)).1) (l.map .d))) mkList else M.bad
    | _ => M.bad)
   | _ => M.bad
  (v, M.bind v truth)
 | _, _, _ => (M.bad, M.bad)
def evs (c : Cfg) : List Expr → Scope → LEnv → M (List MV)
 | [], _, _ => M.pure []
 | e :: r, sc, le => M.bind (evt c e sc le).1 fun v => M.bind (evs c r sc le) fun vs => M.pure (v :: vs)
def evOpt (c : Cfg) : Option Expr → Scope → LEnv → M (Option D)
 | none, _, _ => M.pure none
 | some e, sc, le => M.bind (evt c e sc le).1 fun v => match v with | .d x => M.pure (some x) | _ => M.bad
def evBool (c : Cfg) (op : BoolOp) : List Expr → Scope → LEnv → M MV
 | [], _, _ => M.bad
 | x :: r, sc, le => match r.isEmpty with
  | true => (evt c x sc le).1
  | false => M.bind (evt c x sc le).1 fun v => M.bind (truth v) fun t => if stopAt op t then M.pure v else evBool c op r sc le
def tsts (c : Cfg) (op : BoolOp) : List Expr → Scope → LEnv → M Bool
 | [], _, _ => M.pure (stopAt op false)
 | x :: r, sc, le => M.bind (evt c x sc le).2 fun t => if stopAt op t then M.pure t else tsts c op r sc le
end
abbrev ev (c : Cfg) (e : Expr) (sc : Scope) (le : LEnv) : M MV := (evt c e sc le).1
abbrev tst (c : Cfg) (e : Expr) (sc : Scope) (le : LEnv) : M Bool := (evt c e sc le).2
noncomputable def isLocal (sc : Scope) (x : Str) : Bool := sc.names.lookup x == some .local
noncomputable def bindNames (sc : Scope) : List Expr → List MV → LEnv → Option LEnv
 | [], vs, le => if vs.isEmpty then some le else none
 | t :: r, vs, le => match nameOf t with
  | some x => (match vs with
   | v :: vs => if isLocal sc x then bindNames sc r vs (le.set x v) else none
   | [] => none)
  | none => none
noncomputable def items (v : MV) : MSt → Option (List MV) := fun s => match v with
 | .d (.tup l) => some (l.map .d)
 | .tup l => some l
 | v => lOf v s
noncomputable def setAttr (T : Tab) (ov : MV) (attr : Str) (v : MV) : M Unit := fun s => match ov with
 | .ref n => (match s.objs n with
  | .inst k fs => (match T.cls k with
   | some ci => if ci.data attr ∧ fs.length < 64 then .ok () ⟨s.next, upd s.objs n (.inst k (setFields fs attr v))⟩ else .bad
   | none => .bad)
  | _ => .bad)
 | _ => .bad
noncomputable def setItem (ov iv v : MV) : M Unit := fun s => match ov with
 | .ref n => (match s.objs n with
  | .list l => (match iv.int? with
   | some k => if 0 ≤ k ∧ k.toNat < l.length ∧ l.length ≤ cap then .ok () ⟨s.next, upd s.objs n (.list (l.set k.toNat v))⟩ else .bad
   | none => .bad)
  | _ => .bad)
 | _ => .bad
def assignTo (c : Cfg) (sc : Scope) (t : Expr) (v : MV) (le : LEnv) : M LEnv := match t with
 | .Name x _ => if isLocal sc x then M.pure (le.set x v) else M.bad
 | .Attribute o attr _ => M.bind (ev c o sc le) fun ov => M.bind (setAttr c.T ov attr v) fun _ => M.pure le
 | .Subscript o i _ => M.bind (ev c o sc le) fun ov => M.bind (ev c i sc le) fun iv => M.bind (setItem ov iv v) fun _ => M.pure le
 | .Tuple ts _ _ => M.bind (optM (items v)) fun vs => M.opt (bindNames sc ts vs le)
 | _ => M.bad
noncomputable def swapOk (t v : Expr) : Bool := match t, v with
 | .Tuple _ _ _, .Tuple vs _ _ => vs.all (foldedForSure 8) || !vs.all (constantsAlone 8)
 | .List _ _, _ => false
 | _, _ => true
abbrev Sx := LEnv → M (Fl × LEnv)
noncomputable def goOn (p : Fl × LEnv) (k : Sx) : M (Fl × LEnv) := match p.1 with
 | .next => k p.2
 | .ret _ => M.pure p
noncomputable def wloop (test : LEnv → M Bool) (body : Sx) : Nat → Sx
 | 0, _ => M.bad
 | k + 1, le => M.bind (noExc (test le)) fun b => if b then M.bind (noExc (body le)) fun p => goOn p (wloop test body k) else M.pure (.next, le)
noncomputable def floop (bindT : MV → LEnv → Option LEnv) (body : Sx) : List MV → Sx
 | [], le => M.pure (.next, le)
 | x :: r, le => M.bind (M.opt (bindT x le)) fun le1 => M.bind (noExc (body le1)) fun p => goOn p (floop bindT body r)
noncomputable def iterOf (v : MV) : M (List MV) := match v.str? with
 | some l => M.pure (l.map fun x => .d (.str [x]))
 | none => M.bind (frzM v) fun l => M.pure (l.map .d)
noncomputable def bindFor (sc : Scope) (t : Expr) (v : MV) (le : LEnv) : Option LEnv := match t with
 | .Name x _ => if isLocal sc x then some (le.set x v) else none
 | .Tuple ts _ _ => (match v with
  | .d (.tup l) => bindNames sc ts (l.map .d) le
  | _ => none)
 | _ => none
noncomputable def isComp : Expr → Bool
 | .ListComp _ _ _ _ => true
 | _ => false
noncomputable def rangeOf : Expr → Option (Str × Expr)
 | .Call f args kws _ => (nameOf f).bind fun r => (one? args).bind fun e => if kws.isEmpty then some (r, e) else none
 | _ => none
noncomputable def isNoneC : Expr → Bool
 | .Constant k _ _ => (match k with
  | .none => true
  | _ => false)
 | _ => false
noncomputable def retE : Stmt → Option Expr
 | .Return o _ => o
 | _ => none
noncomputable def noneRet (b : List Stmt) : Bool := (((one? b).bind retE).map isNoneC).getD false
noncomputable def handName (hs : List ExceptHandler) : Option Str := match one? hs with
 | some (.ExceptHandler ty nm b _) => if nm.isNone && noneRet b then ty.bind nameOf else none
 | none => none
noncomputable def callOf : Expr → Option (Expr × List Expr)
 | .Call f args kws _ => if kws.isEmpty then some (f, args) else none
 | _ => none
noncomputable def raiseOf (o : Option Expr) : Option (Str × List Expr) := (o.bind callOf).bind fun p => (nameOf p.1).bind fun x => if plainArgs p.2 = true ∧ p.2.length = 2 then some (x, p.2) else none
noncomputable def isRange (c : Cfg) (sc : Scope) (le : LEnv) (r : Str) : Bool := match evName c.T sc r le with
 | some (.d (.typ q)) => decide (q = "range")
 | _ => false
noncomputable def rngM (v : MV) : M (List MV) := match v.int? with
 | some k => if 0 ≤ k ∧ k ≤ 64 then M.pure (rangeItems k.toNat) else M.bad
 | none => M.bad
def iterM (c : Cfg) (sc : Scope) (it : Expr) (le : LEnv) : M (List MV) := match rangeOf it with
 | some p => if isRange c sc le p.1 then M.bind (ev c p.2 sc le) rngM else M.bad
 | none => M.bind (ev c it sc le) iterOf
noncomputable def isPe (c : Cfg) (v : Option MV) : Bool := match v with
 | some (.d (.glob a)) => decide (a = c.T.pe)
 | _ => false
noncomputable def catchM (ok : Bool) (le : LEnv) (m : M (Fl × LEnv)) : M (Fl × LEnv) := fun s => match m s with
 | .ok p s' => .ok p s'
 | .exc => if ok then .ok (.ret (.d .none), le) ⟨s.next, fun _ => .gone⟩ else .bad
 | .bad => .bad
noncomputable def raiseM (ok : Bool) : M (Fl × LEnv) := fun _ => if ok then .exc else .bad
mutual
def ex (c : Cfg) (sc : Scope) : Stmt → Sx
 | .Expr v _, le => if isComp v then M.bad else M.bind (ev c v sc le) fun _ => M.pure (.next, le)
 | .Pass _, le => M.pure (.next, le)
 | .Return o _, le => match o with
  | none => M.pure (.ret (.d .none), le)
  | some v => M.bind (ev c v sc le) fun x => M.pure (.ret x, le)
 | .Assign ts v _, le => match one? ts with
  | some t => if swapOk t v then M.bind (ev c v sc le) fun x => M.bind (assignTo c sc t x le) fun le' => M.pure (.next, le') else M.bad
  | none => M.bad
 | .If t a b _, le => M.bind (tst c t sc le) fun x => if x then exs c sc a le else exs c sc b le
 | .While t b e _, le => if e.isEmpty then wloop (fun le => tst c t sc le) (fun le => exs c sc b le) c.K le else M.bad
 | .For t it b e _, le => if e.isEmpty then M.bind (iterM c sc it le) fun l => floop (bindFor sc t) (fun le => exs c sc b le) l le else M.bad
 | .Try b hs e f _, le => if e.isEmpty && f.isEmpty then (match handName hs with
  | some x => catchM (isPe c (evName c.T sc x fun _ => none)) le (exs c sc b le)
  | none => M.bad) else M.bad
 | .Raise o k _, le => if k.isNone then (match raiseOf o with
  | some p => M.bind (M.opt (evName c.T sc p.1 le)) fun fv => M.bind (evs c p.2 sc le) fun _ => raiseM (isPe c (some fv))
  | none => M.bad) else M.bad
 | _, _ => M.bad
def exs (c : Cfg) (sc : Scope) : List Stmt → Sx
 | [], le => M.pure (.next, le)
 | st :: r, le => M.bind (ex c sc st le) fun p => goOn p (exs c sc r)
end
noncomputable def zipEnv : List Str → List MV → LEnv
 | x :: xs, v :: vs => fun y => if y = x then some v else zipEnv xs vs y
 | _, _ => fun _ => none
noncomputable def flV (fl : Fl) : MV := match fl with | .ret v => v | .next => .d .none
noncomputable def retM (keep : Bool) (n : Nat) (v : MV) : M MV := if keep then M.pure v else handBack n v
def callN (T : Tab) (K : Nat) : Nat → Nat → List MV → M MV
 | 0, _, _ => M.bad
 | n + 1, f, args => fun s => match T.fn f with
  | none => .bad
  | some mf => if mf.params.length = args.length then M.bind (exs ⟨T, K, callN T K n⟩ mf.scope mf.body (zipEnv mf.params args)) (fun p => retM (T.keep f) s.next (flV p.1)) s else .bad
end
end
section
open PySem PySem.W PyProof.Rows
theorem runs_toks {M : Model} {Γ : Ctx} {p : Pos} {t : Sem Fin} {fs : List Frame} {s s' : Shared} {e : End} (h : Runs M Γ p t fs s e s') : s.toks ≤ s'.toks := by
 induction h <;> (try simp only [Shared.setGen] at *) <;> omega
theorem wakes_toks {M : Model} {Γ : Ctx} {p : Pos} {g : Nat} {r : Resume} {s s' : Shared} {res : GenResult} (h : Wakes M Γ p g r s res s') : s.toks ≤ s'.toks := by
 unfold Wakes at h
 split at h
 ·exact h.elim
 ·split at h
  ·obtain ⟨e, s1, h1, _, _, rfl⟩ := h
   have := runs_toks h1
   simp only [Shared.setGen] at *
   exact this
  ·rw [h.2]; exact nlr _
  ·rw [h.2]; exact nlr _
 ·obtain ⟨e, s1, h1, _, _, rfl⟩ := h
  have := runs_toks h1
  simp only [Shared.setGen] at *
  exact this
 ·rw [h.2]; exact nlr _
 ·rw [h.2]; exact nlr _
theorem wp_toks {α : Type} (M : Model) (Γ : Ctx) (n : Nat) : ∀ (t : Sem α) (Q : α → Pos → Shared → Prop) (E : Value → Pos → Shared → Prop) (p : Pos) (s : Shared), n ≤ s.toks → Sem.wp M Γ t Q E p s →
  Sem.wp M Γ t (fun a p s' => n ≤ s'.toks ∧ Q a p s') (fun e p s' => n ≤ s'.toks ∧ E e p s') p s := by
 intro t
 induction t with
 | pure a => intro Q E p s l h; exact ⟨l, h⟩
 | raise e => intro Q E p s l h; exact ⟨l, h⟩
 | unsupported => intro Q E p s l h; exact h
 | finish => intro Q E p s l h; exact h
 | rule _ k ih => intro Q E p s l h; exact ih () Q E p s l h
 | «at» p' k ih => intro Q E p s l h; exact ih () Q E p' s l h
 | load a _ k ih => intro Q E p s l h; obtain ⟨o, h1, h2⟩ := h; exact ⟨o, h1, ih o Q E p s l h2⟩
 | update a _ f k ih => intro Q E p s l h; exact ⟨h.1, ih () Q E p _ l h.2⟩
 | loadIfAlive a k ih => intro Q E p s l h; exact ih _ Q E p s l h
 | point _ k ih => intro Q E p s l h; exact ih () Q E p s l h
 | register => intro Q E p s l h; exact h
 | alloc o k ih => intro Q E p s l h; exact ih _ Q E p _ l h
 | fresh k ih => intro Q E p s l h; exact ih _ Q E p _ (Nat.le_succ_of_le l) h
 | ask k ih => intro Q E p s l h; exact ih _ Q E p s l h
 | choose src n k ih => intro Q E p s l h; exact ⟨h.1, ih _ Q E p _ l h.2⟩
 | os q _ k ih => intro Q E p s l h; exact ih _ Q E p _ l h
 | call c hh _ _ k ih =>
  intro Q E p s l h
  obtain ⟨r, s', h1, h2⟩ := h
  exact ⟨r, s', h1, ih r Q E p s' (nlt l (runs_toks h1)) h2⟩
 | handled own k ih => intro Q E p s l h; exact ih _ Q E p s l h
 | genState g k ih => intro Q E p s l h; obtain ⟨st, h1, h2⟩ := h; exact ⟨st, h1, ih _ Q E p s l h2⟩
 | newGen c k ih => intro Q E p s l h; exact ih _ Q E p _ l h
 | resume g r _ k ih =>
  intro Q E p s l h
  obtain ⟨res, s', h1, h2⟩ := h
  exact ⟨res, s', h1, ih res Q E p s' (nlt l (wakes_toks h1)) h2⟩
 | yield => intro Q E p s l h; exact h
 | stack k ih => intro Q E p s l h; exact ih _ Q E p s l h
 | fork => intro Q E p s l h; exact h
 | thread k ih => intro Q E p s l h; exact ih _ Q E p s l h
 | await => intro Q E p s l h; exact h
theorem any_toks {α : Type} {M : Model} {A : Around} {t : Sem α} {Q : α → Shared → Prop} {E : Value → Shared → Prop} {s : Shared} (h : wpAny M A t (fun v s' => s.toks ≤ s'.toks → Q v s') (fun e s' => s.toks ≤ s'.toks → E e s') s) :
  wpAny M A t Q E s := fun Γ p hΓ =>
 Sem.wp_mono M Γ t (fun a _ s' hh => hh.2 hh.1) (fun e _ s' hh => hh.2 hh.1) p s (wp_toks M Γ s.toks t _ _ p s (nlr _) (h Γ p hΓ))
structure G where
 prog : Program
 w : World
 K : Frag
 hB : Heap
 T : Tab
 os : OsState
 n0 : List Nat → Nat → Prop
abbrev Rho := Nat → Addr × Addr
theorem nos {α : Type} {a : α} {P : Prop} (e : (none : Option α) = some a) : P := by cases e
theorem some_nil {α : Type} {a b : α} (e : some a = some b) : a = b := by cases e; rfl
inductive ConsR {β : Type} (R : β → Prop) (Rs : List β → Prop) (vs : List β) : Prop
 | mk (v : β) (r : List β) (e : vs = v :: r) (a : R v) (b : Rs r)
def All2 {α β : Type} (R : α → β → Prop) : List α → List β → Prop
 | [] => fun vs => vs = []
 | d :: ds => ConsR (R d) (All2 R ds)
section
variable {α β γ : Type} {R R' : α → β → Prop}
theorem All2.nil : All2 R [] [] := rfl
theorem All2.cons {a : α} {b : β} {l : List α} {m : List β} (h : R a b) (t : All2 R l m) : All2 R (a :: l) (b :: m) := .mk b m rfl h t
theorem All2.imp (h : ∀ a b, R a b → R' a b) : ∀ (l : List α) {m : List β}, All2 R l m → All2 R' l m
 | [], _, e => e
 | _ :: l, _, .mk v r e a b => .mk v r e (h _ _ a) (All2.imp h l b)
theorem All2.length : ∀ (l : List α) {m : List β}, All2 R l m → l.length = m.length
 | [], _, e => by cases e; rfl
 | _ :: l, _, .mk _ _ e _ b => by cases e; exact congrArg (· + 1) (All2.length l b)
theorem All2.append {l' : List α} {m' : List β} (t : All2 R l' m') : ∀ (l : List α) {m : List β}, All2 R l m → All2 R (l ++ l') (m ++ m')
 | [], _, e => by cases e; exact t
 | _ :: l, _, .mk v _ e a b => by cases e; exact .mk v _ rfl a (All2.append t l b)
theorem All2.get : ∀ (l : List α) {m : List β}, All2 R l m → ∀ {k : Nat} {x : α}, l[k]? = some x → ∃ v, m[k]? = some v ∧ R x v
 | [], _, _, _, _, h => by cases h
 | _ :: _, _, .mk v _ e a _, 0, _, h => by cases e; cases h; exact ⟨v, rfl, a⟩
 | _ :: l, _, .mk _ _ e _ b, _ + 1, _, h => by cases e; exact All2.get l b h
theorem All2.at_ : ∀ (l : List α) {m : List β}, All2 R l m → ∀ {k : Nat} {v : β}, m[k]? = some v → ∃ x, l[k]? = some x ∧ R x v
 | [], _, e, _, _, h => by cases e; cases h
 | d :: _, _, .mk _ _ e a _, 0, _, h => by cases e; cases h; exact ⟨d, rfl, a⟩
 | _ :: l, _, .mk _ _ e _ b, _ + 1, _, h => by cases e; exact All2.at_ l b h
theorem All2.drop : ∀ (l : List α) {m : List β}, All2 R l m → ∀ k, All2 R (l.drop k) (m.drop k)
 | _, _, r, 0 => r
 | [], _, e, _ + 1 => by cases e; exact .nil
 | _ :: l, _, .mk _ _ e _ b, k + 1 => by cases e; exact All2.drop l b k
theorem All2.take : ∀ (l : List α) {m : List β}, All2 R l m → ∀ k, All2 R (l.take k) (m.take k)
 | _, _, _, 0 => All2.nil
 | [], _, e, _ + 1 => by cases e; exact .nil
 | _ :: l, _, .mk v _ e a b, k + 1 => by cases e; exact .mk v _ rfl a (All2.take l b k)
theorem All2.set {x : α} {v : β} (r : R x v) : ∀ (l : List α) {m : List β}, All2 R l m → ∀ k, All2 R (l.set k x) (m.set k v)
 | [], _, e, _ => by cases e; exact .nil
 | _ :: _, _, .mk _ _ e _ b, 0 => by cases e; exact .mk v _ rfl r b
 | _ :: l, _, .mk w _ e a b, k + 1 => by cases e; exact .mk w _ rfl a (All2.set r l b k)
theorem All2.map {f : γ → α} : ∀ (l : List γ), All2 R (l.map f) = All2 (fun x => R (f x)) l
 | [] => rfl
 | x :: l => congrArg (ConsR (R (f x))) (All2.map l)
end
def OwnAt (mo : MObj) (p : Addr × Addr) (a : Addr) : Prop := match mo with
 | .gone => False
 | .list _ => a = p.1
 | .inst _ _ => a = p.1 ∨ a = p.2
def Own (st : MSt) (ρ : Rho) (a : Addr) : Prop := ∃ n, OwnAt (st.objs n) (ρ n) a
noncomputable abbrev seqO (t : String) (vs : Array Value) (k : Nat) : Obj := { cls := .type t, data := .seq vs k }
noncomputable abbrev insO (c dx : Nat) : Obj := { cls := .ref c, dict := some dx, data := .plain }
noncomputable abbrev dicO (es : Array DictEntry) (k : Nat) : Obj := { cls := .type "dict", data := .dict es k }
inductive SeqR (t : String) (S : Addr → Prop) (h : Heap) (R : List Value → Prop) (v : Value) : Prop
 | mk (a : Addr) (vs : Array Value) (k : Nat) (e : v = .ref a) (g : h.get? a = some (seqO t vs k)) (n : ¬ S a) (r : R vs.toList)
inductive InsR (S : Addr → Prop) (h : Heap) (c : Nat) (R : List DictEntry → Prop) (v : Value) : Prop
 | mk (x dx : Addr) (es : Array DictEntry) (k : Nat) (e : v = .ref x) (g : h.get? x = some (insO c dx)) (n : ¬ S x) (g2 : h.get? dx = some (dicO es k)) (n2 : ¬ S dx) (r : R es.toList)
inductive Key (x : Str) (R : Value → Prop) (e : DictEntry) : Prop
 | mk (t : Tok) (k : e.key = .str x t) (r : R e.val)
mutual
def VR (S : Addr → Prop) (h : Heap) (n : List Nat → Nat → Prop) : D → Value → Prop
 | .none => fun v => v = .none
 | .bool b => fun v => v = .bool b
 | .int i => fun v => ∃ t, v = .int i t
 | .str l => fun v => ∃ t, v = .str ⟨l.toArray⟩ t ∧ n l t
 | .typ q => fun v => v = .type q
 | .bi q => fun v => v = .builtin q
 | .glob a => fun v => v = .ref a
 | .tup ds => SeqR "tuple" S h (VRs S h n ds)
 | .lst ds => SeqR "list" S h (VRs S h n ds)
 | .inst c fs => InsR S h c (VEs S h n fs)
def VRs (S : Addr → Prop) (h : Heap) (n : List Nat → Nat → Prop) : List D → List Value → Prop
 | [] => fun vs => vs = []
 | d :: ds => ConsR (VR S h n d) (VRs S h n ds)
def VE (S : Addr → Prop) (h : Heap) (n : List Nat → Nat → Prop) : Str × D → DictEntry → Prop
 | (x, d) => Key x (VR S h n d)
def VEs (S : Addr → Prop) (h : Heap) (n : List Nat → Nat → Prop) : List (Str × D) → List DictEntry → Prop
 | [] => fun es => es = []
 | p :: fs => ConsR (VE S h n p) (VEs S h n fs)
end
structure Cx where
 st : MSt
 ρ : Rho
 h : Heap
 x : Addr → Prop
 n : List Nat → Nat → Prop
 w : Addr → Prop
def Cx.O (c : Cx) : Addr → Prop := Own c.st c.ρ
def Cx.S (c : Cx) (a : Addr) : Prop := c.O a ∨ c.x a
mutual
def MR (c : Cx) : MV → Value → Prop
 | .d x => VR c.S c.h c.n x
 | .ref n => fun v => n < c.st.next ∧ v = .ref (c.ρ n).1
 | .tup l => SeqR "tuple" c.S c.h (MRs c l)
def MRs (c : Cx) : List MV → List Value → Prop
 | [] => fun vs => vs = []
 | d :: ds => ConsR (MR c d) (MRs c ds)
end
def ME (c : Cx) (p : Str × MV) : DictEntry → Prop := Key p.1 (MR c p.2)
abbrev MEs (c : Cx) : List (Str × MV) → List DictEntry → Prop := All2 (ME c)
theorem VRs_eq {S : Addr → Prop} {h : Heap} {n : List Nat → Nat → Prop} : ∀ ds, VRs S h n ds = All2 (VR S h n) ds
 | [] => rfl
 | d :: ds => congrArg (ConsR (VR S h n d)) (VRs_eq ds)
theorem VEs_eq {S : Addr → Prop} {h : Heap} {n : List Nat → Nat → Prop} : ∀ ds, VEs S h n ds = All2 (VE S h n) ds
 | [] => rfl
 | d :: ds => congrArg (ConsR (VE S h n d)) (VEs_eq ds)
theorem MRs_eq {c : Cx} : ∀ ds, MRs c ds = All2 (MR c) ds
 | [] => rfl
 | d :: ds => congrArg (ConsR (MR c d)) (MRs_eq ds)
theorem MRs.nil {c : Cx} : MRs c [] [] := rfl
theorem MRs.cons {c : Cx} {d : MV} {v : Value} {ds : List MV} {vs : List Value} (a : MR c d v) (b : MRs c ds vs) : MRs c (d :: ds) (v :: vs) := .mk v vs rfl a b
inductive ListR (c : Cx) (l : List MV) (a : Addr) : Prop
 | mk (vs : Array Value) (k : Nat) (g : c.h.get? a = some (seqO "list" vs k)) (r : MRs c l vs.toList)
inductive InstR (c : Cx) (k : Nat) (fs : List (Str × MV)) (p : Addr × Addr) : Prop
 | mk (es : Array DictEntry) (n : Nat) (g : c.h.get? p.1 = some (insO k p.2)) (g2 : c.h.get? p.2 = some (dicO es n)) (r : MEs c fs es.toList)
def OAt (c : Cx) (mo : MObj) (p : Addr × Addr) : Prop := match mo with
 | .gone => True
 | .list l => ListR c l p.1
 | .inst k fs => InstR c k fs p
structure St (g : G) (c : Cx) (s : Shared) : Prop where
 heap : s.heap = c.h
 base : ∀ a o, g.hB.get? a = some o → c.h.get? a = some o ∧ ¬ c.S a
 at_ : ∀ n, OAt c (c.st.objs n) (c.ρ n)
 inj : ∀ n m a, OwnAt (c.st.objs n) (c.ρ n) a → OwnAt (c.st.objs m) (c.ρ m) a → n = m
 fresh : ∀ n, c.st.next ≤ n → c.st.objs n = .gone
 xlt : ∀ a, c.x a → ∃ o, c.h.get? a = some o
 gens : s.gens = #[]
 os : s.os = g.os
 n0 : ∀ l t, g.n0 l t → c.n l t
 pos : 0 < s.toks
 toks : ∀ l t, c.n l t → 0 < t ∧ t < s.toks
 same_ : ∀ l l' t, c.n l t → c.n l' t → l = l'
 sep : ∀ a, c.O a → ¬ c.x a
def notF (o : Obj) : Prop := ∀ vs, o.data ≠ .fields vs
structure Sl (o o' : Obj) : Prop where
 c : o'.cls = o.cls
 d : o'.dict = o.dict
 t : o'.data = o.data
theorem Sl.refl (o : Obj) : Sl o o := ⟨rfl, rfl, rfl⟩
theorem Sl.trans {a b c : Obj} (x : Sl a b) (y : Sl b c) : Sl a c := ⟨y.c.trans x.c, y.d.trans x.d, y.t.trans x.t⟩
theorem Sl.notF {a b : Obj} (x : Sl a b) (n : notF a) : notF b := fun vs e => n vs (x.t ▸ e)
inductive Kept (h' : Heap) (a : Addr) (o : Obj) (slots : Prop) : Prop
 | mk (o' : Obj) (e : h'.get? a = some o') (s : Sl o o') (k : ¬ slots → o' = o)
structure AdvP (P : Addr → Prop) (c c' : Cx) : Prop where
 keep : ∀ a o, c.h.get? a = some o → ¬ c.O a → ¬ P a → Kept c'.h a o (c.x a ∧ c.w a)
 own : ∀ a o, c.h.get? a = some o → ¬ c.O a → ¬ c'.O a
 live : ∀ a o, c.h.get? a = some o → ¬ c.O a → ∃ o', c'.h.get? a = some o'
 x : c'.x = c.x
 w : c'.w = c.w
 next : c.st.next ≤ c'.st.next
 rho : ∀ n, n < c.st.next → c'.ρ n = c.ρ n
 n : ∀ l t, c.n l t → c'.n l t
abbrev Adv := AdvP (fun _ => False)
theorem Kept.here {h' : Heap} {a : Addr} {o : Obj} {q : Prop} (e : h'.get? a = some o) : Kept h' a o q := ⟨o, e, .refl o, fun _ => rfl⟩
theorem AdvP.refl {P : Addr → Prop} (c : Cx) : AdvP P c c := ⟨fun _ _ e _ _ => .here e, fun _ _ _ n => n, fun _ o e _ => ⟨o, e⟩, rfl, rfl, nlr _, fun _ _ => rfl, fun _ _ h => h⟩
theorem AdvP.toP {P : Addr → Prop} {c c' : Cx} (A : Adv c c') : AdvP P c c' := ⟨fun a o e n _ => A.keep a o e n id, A.own, A.live, A.x, A.w, A.next, A.rho, A.n⟩
theorem AdvP.trans {P : Addr → Prop} {a b c : Cx} (x : AdvP P a b) (y : AdvP P b c) : AdvP P a c := by
 refine ⟨fun p o e n q => ?_, fun p o l n => (x.live p o l n).elim fun o1 e1 => y.own p o1 e1 (x.own p o l n), fun p o l n => (x.live p o l n).elim fun o1 e1 => y.live p o1 e1 (x.own p o l n), y.x.trans x.x, y.w.trans x.w, nlt x.next y.next, fun n h => (y.rho n (lll h x.next)).trans (x.rho n h), fun l t q => y.n l t (x.n l t q)⟩
 cases x.keep p o e n q with | mk o1 e1 s1 k1 =>
 cases y.keep p o1 e1 (x.own p o e n) q with | mk o2 e2 s2 k2 =>
 exact ⟨o2, e2, s1.trans s2, fun h => (k2 (x.x ▸ x.w ▸ h)).trans (k1 h)⟩
abbrev Stands (S S' : Addr → Prop) (h h' : Heap) : Prop := ∀ a o, h.get? a = some o → ¬ S a → h'.get? a = some o ∧ ¬ S' a
section
variable {S S' : Addr → Prop} {h h' : Heap} {n n' : List Nat → Nat → Prop}
theorem SeqR.mono {t : String} {R R' : List Value → Prop} (k : Stands S S' h h') (hR : ∀ l, R l → R' l) {v : Value} : SeqR t S h R v → SeqR t S' h' R' v
 | .mk a vs j e g n r => .mk a vs j e (k a _ g n).1 (k a _ g n).2 (hR _ r)
theorem InsR.mono {c : Nat} {R R' : List DictEntry → Prop} (k : Stands S S' h h') (hR : ∀ l, R l → R' l) {v : Value} : InsR S h c R v → InsR S' h' c R' v
 | .mk x dx es j e g n g2 n2 r => .mk x dx es j e (k x _ g n).1 (k x _ g n).2 (k dx _ g2 n2).1 (k dx _ g2 n2).2 (hR _ r)
theorem ConsR.imp {β : Type} {R R' : β → Prop} {Q Q' : List β → Prop} (h : ∀ v, R v → R' v) (h2 : ∀ l, Q l → Q' l) {l : List β} : ConsR R Q l → ConsR R' Q' l
 | .mk v r e a b => .mk v r e (h v a) (h2 r b)
theorem Key.imp {x : Str} {R R' : Value → Prop} (h : ∀ v, R v → R' v) {e : DictEntry} : Key x R e → Key x R' e
 | .mk t k r => .mk t k (h _ r)
mutual
theorem VR.mono (ln : ∀ l t, n l t → n' l t) (k : Stands S S' h h') : ∀ (d : D) (v : Value), VR S h n d v → VR S' h' n' d v
 | .none, _, e => e
 | .bool _, _, e => e
 | .int _, _, e => e
 | .str _, _, e => e.imp fun _ q => ⟨q.1, ln _ _ q.2⟩
 | .typ _, _, e => e
 | .bi _, _, e => e
 | .glob _, _, e => e
 | .tup l, _, e => SeqR.mono k (VRs.mono ln k l) e
 | .lst l, _, e => SeqR.mono k (VRs.mono ln k l) e
 | .inst _ l, _, e => InsR.mono k (VEs.mono ln k l) e
theorem VRs.mono (ln : ∀ l t, n l t → n' l t) (k : Stands S S' h h') : ∀ (d : List D) (v : List Value), VRs S h n d v → VRs S' h' n' d v
 | [], _, e => e
 | d :: l, _, e => ConsR.imp (VR.mono ln k d) (VRs.mono ln k l) e
theorem VE.mono (ln : ∀ l t, n l t → n' l t) (k : Stands S S' h h') : ∀ (d : Str × D) (v : DictEntry), VE S h n d v → VE S' h' n' d v
 | (_, d), _, e => Key.imp (VR.mono ln k d) e
theorem VEs.mono (ln : ∀ l t, n l t → n' l t) (k : Stands S S' h h') : ∀ (d : List (Str × D)) (v : List DictEntry), VEs S h n d v → VEs S' h' n' d v
 | [], _, e => e
 | d :: l, _, e => ConsR.imp (VE.mono ln k d) (VEs.mono ln k l) e
end
end
structure Up (c c' : Cx) : Prop where
 k : Stands c.S c'.S c.h c'.h
 next : c.st.next ≤ c'.st.next
 rho : ∀ n, n < c.st.next → c'.ρ n = c.ρ n
 n : ∀ l t, c.n l t → c'.n l t
mutual
theorem MR.up {c c' : Cx} (U : Up c c') : ∀ (d : MV) (v : Value), MR c d v → MR c' d v
 | .d x, v, e => VR.mono U.n U.k x v e
 | .ref n, _, e => ⟨lll e.1 U.next, (U.rho n e.1).symm ▸ e.2⟩
 | .tup l, _, e => SeqR.mono U.k (MRs.up U l) e
theorem MRs.up {c c' : Cx} (U : Up c c') : ∀ (d : List MV) (v : List Value), MRs c d v → MRs c' d v
 | [], _, e => e
 | d :: l, _, e => ConsR.imp (MR.up U d) (MRs.up U l) e
end
theorem MEs.up {c c' : Cx} (U : Up c c') {d : List (Str × MV)} {v : List DictEntry} (r : MEs c d v) : MEs c' d v := r.imp (fun p _ e => Key.imp (MR.up U p.2) e) d
theorem AdvP.keepS {P : Addr → Prop} {c c' : Cx} (A : AdvP P c c') (hP : ∀ a, P a → c.x a) : Stands c.S c'.S c.h c'.h := fun a o e n => by
 cases A.keep a o e (fun q => n (.inl q)) (fun q => n (.inr (hP a q))) with | mk o' e' _ k =>
 cases k fun q => n (.inr q.1)
 exact ⟨e', fun q => q.elim (A.own a o e fun q => n (.inl q)) (fun q => n (.inr (A.x ▸ q)))⟩
theorem AdvP.up {P : Addr → Prop} {c c' : Cx} (A : AdvP P c c') (hP : ∀ a, P a → c.x a) : Up c c' := ⟨A.keepS hP, A.next, A.rho, A.n⟩
theorem MR.mono {P : Addr → Prop} {c c' : Cx} (A : AdvP P c c') (hP : ∀ a, P a → c.x a) {d : MV} {v : Value} (r : MR c d v) : MR c' d v := MR.up (A.up hP) d v r
theorem MRs.mono {P : Addr → Prop} {c c' : Cx} (A : AdvP P c c') (hP : ∀ a, P a → c.x a) {d : List MV} {v : List Value} (r : MRs c d v) : MRs c' d v := MRs.up (A.up hP) d v r
theorem MEs.mono {P : Addr → Prop} {c c' : Cx} (A : AdvP P c c') (hP : ∀ a, P a → c.x a) {d : List (Str × MV)} {v : List DictEntry} (r : MEs c d v) : MEs c' d v := MEs.up (A.up hP) r
section
variable {c : Cx} {S : Addr → Prop} {h : Heap} {n : List Nat → Nat → Prop}
theorem VRs.all {d : List D} {v : List Value} (r : VRs S h n d v) : All2 (VR S h n) d v := VRs_eq d ▸ r
theorem MRs.all {d : List MV} {v : List Value} (r : MRs c d v) : All2 (MR c) d v := MRs_eq d ▸ r
theorem MRs.of {d : List MV} {v : List Value} (r : All2 (MR c) d v) : MRs c d v := (MRs_eq d).symm ▸ r
theorem VRs.length {d : List D} {v : List Value} (r : VRs S h n d v) : d.length = v.length := r.all.length
theorem MRs.length {d : List MV} {v : List Value} (r : MRs c d v) : d.length = v.length := r.all.length
theorem MRs.of_d {ds : List D} {vs : List Value} (r : VRs c.S c.h c.n ds vs) : MRs c (ds.map .d) vs := MRs.of (All2.map (R := MR c) ds ▸ (r.all : All2 (fun x => MR c (.d x)) ds vs))
theorem MRs.append {a b : List MV} {va vb : List Value} (r : MRs c a va) (q : MRs c b vb) : MRs c (a ++ b) (va ++ vb) := MRs.of (q.all.append a r.all)
theorem MRs.get {a : List MV} {va : List Value} (r : MRs c a va) {k : Nat} {x : MV} (e : a[k]? = some x) : ∃ v, va[k]? = some v ∧ MR c x v := r.all.get a e
theorem MRs.drop {a : List MV} {va : List Value} (r : MRs c a va) (k : Nat) : MRs c (a.drop k) (va.drop k) := MRs.of (r.all.drop a k)
theorem MRs.take {a : List MV} {va : List Value} (r : MRs c a va) (k : Nat) : MRs c (a.take k) (va.take k) := MRs.of (r.all.take a k)
theorem MRs.set {a : List MV} {va : List Value} (r : MRs c a va) (k : Nat) {x : MV} {v : Value} (q : MR c x v) : MRs c (a.set k x) (va.set k v) := MRs.of (r.all.set q a k)
end
theorem noP (c : Cx) : ∀ a : Addr, (fun _ => False) a → c.x a := fun _ h => h.elim
theorem OAt.up {c c' : Cx} (U : Up c c') : ∀ {mo : MObj} {p : Addr × Addr}, (∀ a o, OwnAt mo p a → c.h.get? a = some o → c'.h.get? a = some o) → OAt c mo p → OAt c' mo p
 | .gone, _, _, _ => trivial
 | .list l, _, k, .mk vs j g r => .mk vs j (k _ _ rfl g) (MRs.up U l _ r)
 | .inst _ _, _, k, .mk es j g g2 r => .mk es j (k _ _ (.inl rfl) g) (k _ _ (.inr rfl) g2) (r.up U)
theorem OAt.there {c : Cx} {a : Addr} : ∀ {mo : MObj} {p : Addr × Addr}, OAt c mo p → OwnAt mo p a → ∃ o, c.h.get? a = some o ∧ notF o
 | .list _, _, .mk _ _ g _, e => ⟨_, (show a = _ from e) ▸ g, fun _ q => by cases q⟩
 | .inst _ _, _, .mk _ _ g _ _, .inl e => ⟨_, e ▸ g, fun _ q => by cases q⟩
 | .inst _ _, _, .mk _ _ _ g _, .inr e => ⟨_, e ▸ g, fun _ q => by cases q⟩
section
variable {g : G} {c : Cx} {s s' : Shared}
theorem St.own (X : St g c s) {a : Addr} (h : c.O a) : ∃ o, c.h.get? a = some o ∧ notF o := h.elim fun n q => (X.at_ n).there q
theorem St.lt (X : St g c s) {a : Addr} (h : c.S a) : ∃ o, c.h.get? a = some o := h.elim (fun h => (X.own h).imp fun _ q => q.1) (X.xlt a)
theorem St.not_own_size (X : St g c s) {a : Addr} (h : c.h.get? a = none) : ¬ c.S a := fun q => (X.lt q).elim fun _ e => by rw [h] at e; cases e
theorem St.tk (X : St g c s) (ht : s.toks ≤ s'.toks) : ∀ l t, c.n l t → 0 < t ∧ t < s'.toks := fun l t q => ⟨(X.toks l t q).1, lll (X.toks l t q).2 ht⟩
noncomputable def Cx.re (c : Cx) (h' : Heap) (x w : Addr → Prop) : Cx := ⟨c.st, c.ρ, h', x, c.n, w⟩
noncomputable abbrev Cx.he (c : Cx) (h' : Heap) : Cx := c.re h' c.x c.w
noncomputable abbrev Cx.put (c : Cx) (st : MSt) : Cx := ⟨st, c.ρ, c.h, c.x, c.n, c.w⟩
theorem St.re (X : St g c s) {h' : Heap} {x w : Addr → Prop} (U : Up c (c.re h' x w)) (kO : ∀ a o, c.O a → c.h.get? a = some o → h'.get? a = some o) (hb : ∀ a o, g.hB.get? a = some o → h'.get? a = some o ∧ ¬ x a)
  (xl : ∀ a, x a → ∃ o, h'.get? a = some o) (sp : ∀ a, c.O a → ¬ x a) (hs : s'.heap = h') (hg : s'.gens = s.gens) (ho : s'.os = s.os) (ht : s.toks ≤ s'.toks) : St g (c.re h' x w) s' :=
 ⟨hs, fun a o e => ⟨(hb a o e).1, fun q => q.elim (fun q => (X.base a o e).2 (.inl q)) (hb a o e).2⟩, fun n => (X.at_ n).up U fun a o q => kO a o ⟨n, q⟩, X.inj, X.fresh, xl, hg.trans X.gens, ho.trans X.os, X.n0, lll X.pos ht, X.tk ht, X.same_, sp⟩
theorem St.grow (X : St g c s) {h' : Heap} (k : ∀ a o, c.h.get? a = some o → h'.get? a = some o) (hs : s'.heap = h') (hg : s'.gens = s.gens) (ho : s'.os = s.os) (ht : s.toks ≤ s'.toks) : St g (c.he h') s' ∧ Adv c (c.he h') :=
 ⟨X.re ⟨fun a o e n => ⟨k a o e, n⟩, nlr _, fun _ _ => rfl, fun _ _ h => h⟩ (fun a o _ => k a o) (fun a o e => ⟨k a o (X.base a o e).1, fun q => (X.base a o e).2 (.inr q)⟩) (fun a q => (X.xlt a q).imp (k a)) X.sep hs hg ho ht,
  ⟨fun a o e _ _ => .here (k a o e), fun _ _ _ n => n, fun a o e _ => ⟨o, k a o e⟩, rfl, rfl, nlr _, fun _ _ => rfl, fun _ _ h => h⟩⟩
theorem St.same (X : St g c s) (hs : s'.heap = s.heap) (hg : s'.gens = s.gens) (ho : s'.os = s.os) (ht : s.toks ≤ s'.toks) : St g c s' :=
 ⟨hs.trans X.heap, X.base, X.at_, X.inj, X.fresh, X.xlt, hg.trans X.gens, ho.trans X.os, X.n0, lll X.pos ht, X.tk ht, X.same_, X.sep⟩
noncomputable abbrev Cx.tok (c : Cx) (s : Shared) (l : List Nat) : Cx := ⟨c.st, c.ρ, c.h, c.x, fun l' t => c.n l' t ∨ (t = s.toks ∧ l' = l), c.w⟩
theorem St.more (X : St g c s) (hs : s'.heap = s.heap) (hg : s'.gens = s.gens) (ho : s'.os = s.os) (l : List Nat) (lt : s.toks < s'.toks) : St g (c.tok s l) s' ∧ Adv c (c.tok s l) := by
 have A : Adv c (c.tok s l) := ⟨fun a o e _ _ => .here e, fun _ _ _ n => n, fun a o e _ => ⟨o, e⟩, rfl, rfl, nlr _, fun _ _ => rfl, fun _ _ h => .inl h⟩
 have Y := X.same hs hg ho (nol lt)
 have no : ∀ l', ¬ c.n l' s.toks := fun l' q => Nat.lt_irrefl _ (X.toks l' _ q).2
 refine ⟨⟨Y.heap, Y.base, fun n => (Y.at_ n).up (A.up (noP c)) fun _ _ _ e => e, Y.inj, Y.fresh, Y.xlt, Y.gens, Y.os, fun l t q => .inl (Y.n0 l t q), Y.pos, fun l' t q => q.elim (Y.toks l' t) fun q => q.1 ▸ ⟨X.pos, lt⟩, fun l1 l2 t q1 q2 => ?_, Y.sep⟩, A⟩
 exact q1.elim (fun q1 => q2.elim (X.same_ _ _ _ q1) fun q2 => absurd (q2.1 ▸ q1) (no l1)) fun q1 => q2.elim (fun q2 => absurd (q1.1 ▸ q2) (no l2)) fun q2 => q1.2.trans q2.2.symm
theorem St.push (X : St g c s) (o : Obj) (hs : s'.heap = s.heap.push o) (hg : s'.gens = s.gens) (ho : s'.os = s.os) (ht : s.toks ≤ s'.toks) : St g (c.he (c.h.push o)) s' ∧ Adv c (c.he (c.h.push o)) :=
 X.grow (fun _ _ e => Heap.get?_push_of_some _ e) (hs.trans (by rw [X.heap])) hg ho ht
noncomputable def rset (ρ : Rho) (n : Nat) (p : Addr × Addr) : Rho := fun m => if m = n then p else ρ m
noncomputable def Cx.add (c : Cx) (mo : MObj) (p : Addr × Addr) (h' : Heap) : Cx := ⟨⟨c.st.next + 1, upd c.st.objs c.st.next mo⟩, rset c.ρ c.st.next p, h', c.x, c.n, c.w⟩
noncomputable def Cx.tun (c : Cx) (n : Nat) (mo : MObj) (h' : Heap) : Cx := ⟨⟨c.st.next, upd c.st.objs n mo⟩, c.ρ, h', c.x, c.n, c.w⟩
theorem upd_at {P : Nat → MObj → Addr × Addr → Prop} {f : Nat → MObj} {ρ : Rho} {k : Nat} {mo : MObj} {p : Addr × Addr} (h1 : P k mo p) (h2 : ∀ n, n ≠ k → P n (f n) (ρ n)) (n : Nat) : P n (upd f k mo n) (rset ρ k p n) := by
 unfold upd rset
 by_cases e : n = k
 ·rw [if_pos e, if_pos e, e]; exact h1
 ·rw [if_neg e, if_neg e]; exact h2 n e
theorem rset_self (ρ : Rho) (k : Nat) : rset ρ k (ρ k) = ρ := funext fun n => by
 unfold rset
 by_cases e : n = k
 ·rw [if_pos e, e]
 ·rw [if_neg e]
theorem St.add_own {mo : MObj} {p : Addr × Addr} {h' : Heap} {a : Addr} (h : (c.add mo p h').O a) : c.O a ∨ OwnAt mo p a := by
 obtain ⟨n, h⟩ := h
 exact upd_at (P := fun _ mo' p' => OwnAt mo' p' a → c.O a ∨ OwnAt mo p a) (ρ := c.ρ) .inr (fun m _ q => .inl ⟨m, q⟩) n h
theorem add_inj {st : MSt} {ρ : Rho} {k : Nat} {mo : MObj} {p : Addr × Addr} (inj : ∀ n m a, OwnAt (st.objs n) (ρ n) a → OwnAt (st.objs m) (ρ m) a → n = m) (gone : ∀ a m, OwnAt mo p a → ¬ OwnAt (st.objs m) (ρ m) a) (n m : Nat) (a : Addr) :
  OwnAt (upd st.objs k mo n) (rset ρ k p n) a → OwnAt (upd st.objs k mo m) (rset ρ k p m) a → n = m := by
 refine upd_at (P := fun n mo' p' => OwnAt mo' p' a → OwnAt _ _ a → n = m) (ρ := ρ) (fun q => ?_) (fun i _ q => ?_) n
 ·exact upd_at (P := fun m mo' p' => OwnAt mo' p' a → k = m) (ρ := ρ) (fun _ => rfl) (fun j _ z => absurd z (gone a j q)) m
 ·exact upd_at (P := fun m mo' p' => OwnAt mo' p' a → i = m) (ρ := ρ) (fun z => absurd q (gone a i z)) (fun j _ z => inj i j a q z) m
theorem St.alloc (X : St g c s) {mo : MObj} {p : Addr × Addr} {h' : Heap} (k : ∀ a o, c.h.get? a = some o → h'.get? a = some o)
  (new : ∀ a, OwnAt mo p a → c.h.get? a = none) (hO : ∀ c' : Cx, c'.h = h' → Adv c c' → OAt c' mo p) (hs : s'.heap = h') (hg : s'.gens = s.gens) (ho : s'.os = s.os) (ht : s.toks ≤ s'.toks) :
  St g (c.add mo p h') s' ∧ Adv c (c.add mo p h') := by
 have no : ∀ a o, c.h.get? a = some o → ¬ OwnAt mo p a := fun a o e q => by rw [new a q] at e; cases e
 have nO : ∀ a, c.O a → ¬ OwnAt mo p a := fun a q => (X.own q).elim fun o e => no a o e.1
 have A : Adv c (c.add mo p h') :=
  ⟨fun a o e _ _ => .here (k a o e), fun a o l n q => (St.add_own q).elim n (no a o l), fun a o e _ => ⟨o, k a o e⟩, rfl, rfl, Nat.le_succ _, fun n hn => if_neg (nnl hn), fun _ _ h => h⟩
 have gone : ∀ a m, OwnAt mo p a → ¬ OwnAt (c.st.objs m) (c.ρ m) a := fun a m q z => nO a ⟨m, z⟩ q
 exact ⟨⟨hs, fun a o e => ⟨k a o (X.base a o e).1, fun q => q.elim (fun q => (St.add_own q).elim (fun z => (X.base a o e).2 (.inl z)) (no a o (X.base a o e).1)) fun z => (X.base a o e).2 (.inr z)⟩,
  upd_at (P := fun _ => OAt _) (hO _ rfl A) fun n _ => (X.at_ n).up (A.up (noP c)) fun a o _ => k a o, add_inj X.inj gone, fun n hn => (if_neg (Nat.ne_of_gt hn)).trans (X.fresh n (Nat.le_of_succ_le hn)), fun a q => (X.xlt a q).imp (k a), hg.trans X.gens, ho.trans X.os, X.n0, lll X.pos ht, X.tk ht, X.same_, fun a q hx => (St.add_own q).elim (fun q => X.sep a q hx) fun q => (X.xlt a hx).elim fun o e => no a o e q⟩, A⟩
inductive NewL (g : G) (c : Cx) (l : List MV) (v : Value) (s' : Shared) : Prop
 | mk (c' : Cx) (X : St g c' s') (A : Adv c c') (e : c'.st = ⟨c.st.next + 1, upd c.st.objs c.st.next (.list l)⟩) (r : MR c' (.ref c.st.next) v)
theorem St.newList (X : St g c s) {l : List MV} {vs : List Value} (r : MRs c l vs) (hs : s'.heap = s.heap.push (seqO "list" vs.toArray 0)) (hg : s'.gens = s.gens) (ho : s'.os = s.os) (ht : s.toks ≤ s'.toks) :
  NewL g c l (.ref s.heap.objs.size) s' := by
 rw [X.heap] at hs ⊢
 have Y := X.alloc (mo := .list l) (p := (c.h.objs.size, 0)) (h' := c.h.push (seqO "list" vs.toArray 0)) (fun _ _ e => Heap.get?_push_of_some _ e) (fun _ q => (show _ = _ from q) ▸ Heap.get?_none_of_le (nlr _))
  (fun c' hc A => ⟨vs.toArray, 0, hc ▸ Heap.get?_push_size _ rfl, r.mono A (noP c)⟩) hs hg ho ht
 exact ⟨_, Y.1, Y.2, rfl, nls _, congrArg (fun p : Addr × Addr => Value.ref p.1) (show _ = rset c.ρ c.st.next (c.h.objs.size, 0) c.st.next from (if_pos rfl).symm)⟩
theorem St.turn (X : St g c s) {n : Nat} {mo mo' : MObj} (hn : c.st.objs n = mo) (hd : n < c.st.next) (hi : ∀ a, OwnAt mo' (c.ρ n) a → OwnAt mo (c.ρ n) a)
  {h' : Heap} (k : ∀ a o, c.h.get? a = some o → ¬ OwnAt mo (c.ρ n) a → h'.get? a = some o) (hz : ∀ a o, c.h.get? a = some o → ∃ o', h'.get? a = some o')
  (hO : ∀ c' : Cx, c'.h = h' → Adv c c' → OAt c' mo' (c.ρ n)) (hs : s'.heap = h') (hg : s'.gens = s.gens) (ho : s'.os = s.os) (ht : s.toks ≤ s'.toks) :
  St g (c.tun n mo' h') s' ∧ Adv c (c.tun n mo' h') := by
 subst hn
 have at' : ∀ {P : Nat → MObj → Addr × Addr → Prop}, P n mo' (c.ρ n) → (∀ m, m ≠ n → P m (c.st.objs m) (c.ρ m)) → ∀ m, P m (upd c.st.objs n mo' m) (c.ρ m) := fun {P} h1 h2 m => by
  have := upd_at (P := P) (ρ := c.ρ) h1 h2 m
  rw [rset_self] at this
  exact this
 have sub : ∀ m a, OwnAt (upd c.st.objs n mo' m) (c.ρ m) a → OwnAt (c.st.objs m) (c.ρ m) a := fun m a => at' (P := fun m mo p => OwnAt mo p a → OwnAt (c.st.objs m) p a) (hi a) (fun _ _ q => q) m
 have subO : ∀ a, (c.tun n mo' h').O a → c.O a := fun a ⟨m, q⟩ => ⟨m, sub m a q⟩
 have A : Adv c (c.tun n mo' h') :=
  ⟨fun a o e q _ => .here (k a o e fun z => q ⟨n, z⟩), fun a _ _ n z => n (subO a z), fun a o e _ => hz a o e, rfl, rfl, nlr _, fun _ _ => rfl, fun _ _ h => h⟩
 exact ⟨⟨hs, fun a o e => ⟨k a o (X.base a o e).1 fun z => (X.base a o e).2 (.inl ⟨n, z⟩), fun z => (X.base a o e).2 (z.imp (subO a) id)⟩,
  at' (P := fun _ => OAt _) (hO _ rfl A) fun m e => (X.at_ m).up (A.up (noP c)) fun a o q ha => k a o ha fun z => e (X.inj m n a q z),
  fun m m' a q z => X.inj m m' a (sub m a q) (sub m' a z), fun m hm => (if_neg fun (q : m = n) => Nat.lt_irrefl _ (lll hd (q ▸ hm))).trans (X.fresh m hm), fun a q => (X.xlt a q).elim fun o e => hz a o e, hg.trans X.gens, ho.trans X.os, X.n0, lll X.pos ht, X.tk ht, X.same_, fun a q => X.sep a (subO a q)⟩, A⟩
theorem St.drop (X : St g c s) (st' : MSt) (hn : c.st.next ≤ st'.next) (ho : ∀ n, st'.objs n = c.st.objs n ∨ st'.objs n = .gone) : St g (c.put st') s ∧ Adv c (c.put st') := by
 have sub : ∀ m a, OwnAt (st'.objs m) (c.ρ m) a → OwnAt (c.st.objs m) (c.ρ m) a := fun m a q => (ho m).elim (fun e => e ▸ q) fun e => by rw [e] at q; exact q.elim
 have subO : ∀ a, Own st' c.ρ a → c.O a := fun a ⟨m, q⟩ => ⟨m, sub m a q⟩
 have A : Adv c (c.put st') := ⟨fun a o e _ _ => .here e, fun a _ _ n z => n (subO a z), fun a o e _ => ⟨o, e⟩, rfl, rfl, hn, fun _ _ => rfl, fun _ _ h => h⟩
 refine ⟨⟨X.heap, fun a o e => ⟨(X.base a o e).1, fun z => (X.base a o e).2 (z.imp (subO a) id)⟩, fun m => ?_, fun m m' a q z => X.inj m m' a (sub m a q) (sub m' a z), fun m hm => (ho m).elim (fun e => e.trans (X.fresh m (nlt hn hm))) id, X.xlt, X.gens, X.os, X.n0, X.pos, X.toks, X.same_, fun a q => X.sep a (subO a q)⟩, A⟩
 show OAt _ (st'.objs m) _
 cases ho m with
 | inl e => rw [e]; exact (X.at_ m).up (A.up (noP c)) fun _ _ _ e => e
 | inr e => rw [e]; trivial
end
structure Fm where
 A : Around
 env : Env
 envs : List Env
 L : Addr
structure FmOk (sc : Scope) (f : Fm) (n u : Nat) : Prop where
 fr : f.A.frames = some f.envs
 hd : f.A.handled = none
 dep : f.A.depth + 2 * n ≤ 900
 uni : f.A.units + 10 * n + u ≤ 9000
 fn : f.env.scope.kind = .function
 glo : f.env.globals = mainGlobals
 blt : f.env.builtins = builtinsNs
 loc : f.env.locals = f.L
 kl : ∀ x, sc.names.lookup x = some .local → f.env.kindOf x = some .local
 kg : ∀ x, sc.names.lookup x = some .globalImplicit → f.env.kindOf x = some .globalImplicit
 kc : ∀ x, sc.names.lookup x = some .cell ∨ sc.names.lookup x = some .free → f.env.kindOf x = some .cell ∨ f.env.kindOf x = some .free
 cl : ∀ x, sc.names.lookup x = some .cell ∨ sc.names.lookup x = some .free → ∃ ca, f.env.cells.lookup x = some ca
inductive CelR (c : Cx) (v : MV) (ca : Addr) : Prop
 | mk (o : Obj) (val : Value) (g : c.h.get? ca = some o) (d : o.data = .cell (some val)) (n : ¬ c.S ca) (r : MR c v val)
inductive LocR (sc : Scope) (le : LEnv) (c : Cx) (L : Addr) : Prop
 | mk (m : Str → Option Value) (ns : c.h.Ns L m) (r : ∀ x v, sc.names.lookup x = some .local → le x = some v → ∃ val, m x = some val ∧ MR c v val)
def far (sc : Scope) (x : Str) : Prop := sc.names.lookup x = some .cell ∨ sc.names.lookup x = some .free
structure FrX (g : G) (f : Fm) (c : Cx) : Prop where
 notO : ¬ c.O f.L
 inx : c.x f.L
 frs : c.h.FunFrames g.hB f.envs
 frO : ∀ e ∈ f.envs, ∀ a, e.frame = some a → ¬ c.O a ∧ c.x a ∧ c.w a
 wf : ∀ a, c.x a → c.w a → ∃ e ∈ f.envs, e.frame = some a
structure FrSt (g : G) (sc : Scope) (f : Fm) (le : LEnv) (c : Cx) : Prop extends FrX g f c where
 ns : LocR sc le c f.L
 cel : ∀ x v, far sc x → le x = some v → ∃ ca, f.env.cells.lookup x = some ca ∧ CelR c v ca
theorem CelR.up {c c' : Cx} (U : Up c c') {v : MV} {ca : Addr} : CelR c v ca → CelR c' v ca
 | .mk o val g d n r => .mk o val (U.k ca o g n).1 d (U.k ca o g n).2 (MR.up U v val r)
theorem Ns_keep {h h' : Heap} {a : Addr} {m : Str → Option Value} (k : ∀ o, h.get? a = some o → ∃ o', h'.get? a = some o' ∧ o'.data = o.data) : h.Ns a m → h'.Ns a m
 | ⟨o, es, ep, g, d, r⟩ => (k o g).elim fun o' e => ⟨o', es, ep, e.1, e.2.trans d, r⟩
theorem Ns_there {h : Heap} {a : Addr} {m : Str → Option Value} (n : h.Ns a m) : ∃ o, h.get? a = some o ∧ notF o :=
 n.elim fun o n => n.elim fun _ n => n.elim fun _ n => ⟨o, n.1, fun _ q => by rw [n.2.1] at q; cases q⟩
theorem LocR.up {sc : Scope} {le : LEnv} {c c' : Cx} (U : Up c c') {L : Addr} (k : ∀ o, c.h.get? L = some o → ∃ o', c'.h.get? L = some o' ∧ o'.data = o.data) : LocR sc le c L → LocR sc le c' L
 | .mk m ns r => .mk m (Ns_keep k ns) fun x v h e => (r x v h e).imp fun val q => ⟨q.1, MR.up U v val q.2⟩
theorem Kept.data {h' : Heap} {a : Addr} {o : Obj} {q : Prop} : Kept h' a o q → ∃ o', h'.get? a = some o' ∧ o'.data = o.data
 | .mk o' e s _ => ⟨o', e, s.t⟩
theorem Kept.notF {h' : Heap} {a : Addr} {o : Obj} {q : Prop} (n : Mine.notF o) : Kept h' a o q → ∃ o', h'.get? a = some o' ∧ Mine.notF o'
 | .mk o' e s _ => ⟨o', e, s.notF n⟩
theorem frames_keep {h h' B : Heap} : ∀ {l : List Env}, (∀ e ∈ l, ∀ a, e.frame = some a → ∀ o, h.get? a = some o → notF o → ∃ o', h'.get? a = some o' ∧ notF o') → h.FunFrames B l → h'.FunFrames B l
 | [], _, _ => trivial
 | e :: _, K, h => ⟨h.1, h.2.1.elim fun L q => q.elim fun o q => (K e (.head _) L q.1 o q.2.2.1 q.2.2.2).elim fun o' z => ⟨L, o', q.1, q.2.1, z.1, z.2⟩, frames_keep (fun e he => K e (.tail _ he)) h.2.2⟩
theorem frame_there {h B : Heap} {l : List Env} (F : h.FunFrames B l) {e : Env} (he : e ∈ l) {a : Addr} (ha : e.frame = some a) : ∃ o, h.get? a = some o ∧ notF o := (F.mem (List.mem_filterMap.mpr ⟨e, he, ha⟩)).2
section
variable {g : G} {sc : Scope} {f : Fm} {le : LEnv} {c c' : Cx} {P : Addr → Prop}
theorem LocR.there {L : Addr} : LocR sc le c L → ∃ o, c.h.get? L = some o ∧ notF o
 | .mk _ ns _ => Ns_there ns
theorem FrX.adv (F : FrX g f c) (there : ∃ o, c.h.get? f.L = some o) (A : AdvP P c c') (hp : ∀ e ∈ f.envs, ∀ a, e.frame = some a → P a → ∃ o', c'.h.get? a = some o' ∧ notF o') : FrX g f c' :=
 ⟨there.elim fun o e => A.own _ o e F.notO, A.x ▸ F.inx, frames_keep (fun e he a ha o eo n => (Classical.em (P a)).elim (hp e he a ha) fun q => (A.keep a o eo (F.frO e he a ha).1 q).notF n) F.frs,
  fun e he a ha => ⟨(frame_there F.frs he ha).elim fun o eo => A.own a o eo.1 (F.frO e he a ha).1, A.x ▸ A.w ▸ (F.frO e he a ha).2⟩, A.x ▸ A.w ▸ F.wf⟩
theorem FrSt.advP (F : FrSt g sc f le c) (A : AdvP P c c') (hP : ∀ a, P a → c.x a) (hL : ¬ P f.L) (hp : ∀ e ∈ f.envs, ∀ a, e.frame = some a → P a → ∃ o', c'.h.get? a = some o' ∧ notF o') : FrSt g sc f le c' :=
 ⟨F.toFrX.adv (F.ns.there.imp fun _ q => q.1) A hp, F.ns.up (A.up hP) fun o e => (A.keep _ o e F.notO hL).data, fun x v h e => (F.cel x v h e).imp fun _ q => ⟨q.1, q.2.up (A.up hP)⟩⟩
theorem FrSt.adv (F : FrSt g sc f le c) (A : Adv c c') : FrSt g sc f le c' := F.advP A (noP c) id fun _ _ _ _ h => h.elim
end
inductive FreshE (g : G) (s : Shared) (ea : Addr) (a0 : Value) : Prop
 | mk (oe : Obj) (vs : Array Value) (h1 : s.heap.get? ea = some oe) (h2 : oe.cls = .ref g.T.pe) (h3 : oe.data = .fields vs) (h4 : vs[1]? = some .none) (h5 : vs[0]? = some a0)
inductive Flies (g : G) (envs : List Env) (K : Addr → Obj → Prop) (e : Value) (s : Shared) : Prop
 | mk (B : Heap) (ea : Addr) (a0 : Value) (h1 : e = .ref ea) (h2 : B.get? ea = none) (h3 : B.StaysIn s.heap) (h4 : s.heap.FunFrames B envs) (h5 : ∀ a o, K a o → B.get? a = some o) (h6 : FreshE g s ea a0 ∨ s.heap.TracedW B ea (.ref g.T.pe) a0)
structure Still (P : Addr → Prop) (c : Cx) (a : Addr) (o : Obj) : Prop where
 e : c.h.get? a = some o
 n : ¬ c.O a
 w : ¬ (c.x a ∧ c.w a)
 p : ¬ P a
structure ExcP (g : G) (envs : List Env) (P : Addr → Prop) (c : Cx) (e : Value) (s : Shared) : Prop where
 fly : Flies g envs (Still P c) e s
 keep : ∀ a o, c.h.get? a = some o → ¬ c.O a → ¬ P a → notF o → ∃ o', s.heap.get? a = some o' ∧ Sl o o'
 gens : s.gens = #[]
 os : s.os = g.os
abbrev Exc (g : G) (envs : List Env) (c : Cx) (e : Value) (s : Shared) : Prop := ExcP g envs (fun _ => False) c e s
theorem Flies.imp {g : G} {envs : List Env} {K K' : Addr → Obj → Prop} {e : Value} {s : Shared} (h : ∀ a o, K' a o → K a o) : Flies g envs K e s → Flies g envs K' e s
 | .mk B ea a0 h1 h2 h3 h4 h5 h6 => .mk B ea a0 h1 h2 h3 h4 (fun a o q => h5 a o (h a o q)) h6
theorem ExcP.backP {P : Addr → Prop} {g : G} {envs : List Env} {c c' : Cx} {e : Value} {s : Shared} (hP : ∀ a, P a → c.x a) (A : AdvP P c c') (x : ExcP g envs P c' e s) : ExcP g envs P c e s := by
 refine ⟨x.fly.imp fun a o k => ?_, fun a o h n p q => ?_, x.gens, x.os⟩
 ·cases A.keep a o k.e k.n k.p with | mk o' e' _ kk =>
  cases kk k.w
  exact ⟨e', A.own a o k.e k.n, by rw [A.x, A.w]; exact k.w, k.p⟩
 ·cases A.keep a o h n p with | mk o1 e1 s1 _ =>
  exact (x.keep a o1 e1 (A.own a o h n) p (s1.notF q)).imp fun o2 e2 => ⟨e2.1, s1.trans e2.2⟩
theorem ExcP.back {g : G} {envs : List Env} {c c' : Cx} {e : Value} {s : Shared} (A : Adv c c') (x : Exc g envs c' e s) : Exc g envs c e s := ExcP.backP (noP c) A x
theorem ExcP.toP {P : Addr → Prop} {g : G} {envs : List Env} {c : Cx} {e : Value} {s : Shared} (x : Exc g envs c e s) : ExcP g envs P c e s :=
 ⟨x.fly.imp fun _ _ k => ⟨k.e, k.n, k.w, id⟩, fun a o h n _ q => x.keep a o h n id q, x.gens, x.os⟩
def own (f : Fm) : Addr → Prop := fun a => a = f.L
theorem ownX {g : G} {sc : Scope} {f : Fm} {le : LEnv} {c : Cx} (F : FrSt g sc f le c) : ∀ a, own f a → c.x a := fun _ h => (show _ = f.L from h) ▸ F.inx
inductive Post {α β : Type} (P : Addr → Prop) (g : G) (c : Cx) (r : O β) (R : Cx → β → α → Prop) (v : α) (s' : Shared) : Prop
 | mk (a : β) (c' : Cx) (e : r = .ok a c'.st) (X : St g c' s') (A : AdvP P c c') (k : R c' a v)
def WP {α β : Type} (P : Addr → Prop) (g : G) (f : Fm) (c : Cx) (s : Shared) (t : Sem α) (r : O β) (R : Cx → β → α → Prop) : Prop :=
 r ≠ .bad → wpAny (model g.prog g.w) f.A t (Post P g c r R) (fun e s' => r = .exc ∧ ExcP g f.envs P c e s') s
abbrev W {α β : Type} (g : G) (f : Fm) (c : Cx) (s : Shared) (t : Sem α) (r : O β) (R : Cx → β → α → Prop) : Prop := WP (fun _ => False) g f c s t r R
abbrev WL {α β : Type} (g : G) (f : Fm) (c : Cx) (s : Shared) (t : Sem α) (r : O β) (R : Cx → β → α → Prop) : Prop := WP (own f) g f c s t r R
section
variable {α β γ δ : Type} {P : Addr → Prop} {g : G} {f : Fm} {c c1 : Cx} {s : Shared}
theorem bind_bad {m : M β} {l : β → M δ} {st : MSt} (h : m st = .bad) : M.bind m l st = .bad := by unfold M.bind; rw [h]
theorem bind_exc {m : M β} {l : β → M δ} {st : MSt} (h : m st = .exc) : M.bind m l st = .exc := by unfold M.bind; rw [h]
theorem bind_ok {m : M β} {l : β → M δ} {st st1 : MSt} {a : β} (h : m st = .ok a st1) : M.bind m l st = l a st1 := by unfold M.bind; rw [h]
theorem Post.back {r : O β} {R : Cx → β → α → Prop} {v : α} {s' : Shared} (A : AdvP P c c1) (p : Post P g c1 r R v s') : Post P g c r R v s' := by
 cases p with | mk a c' e X A' k => exact ⟨a, c', e, X, A.trans A', k⟩
theorem WP.at_ (hP : ∀ a, P a → c.x a) {t : Sem α} {r : O β} {R : Cx → β → α → Prop} (A : AdvP P c c1) (h : WP P g f c1 s t r R) (hb : r ≠ .bad) :
  wpAny (model g.prog g.w) f.A t (Post P g c r R) (fun e s' => r = .exc ∧ ExcP g f.envs P c e s') s :=
 wpAny_mono (h hb) (fun _ _ p => p.back A) fun _ _ x => ⟨x.1, x.2.backP hP A⟩
theorem WP.seq (hP : ∀ a, P a → c.x a) {t : Sem α} {m : M β} {R : Cx → β → α → Prop} {t2 : α → Sem γ} {l : β → M δ} {R2 : Cx → δ → γ → Prop}
  (h : WP P g f c s t (m c.st) R) (h2 : ∀ a v c1 s1, St g c1 s1 → AdvP P c c1 → R c1 a v → WP P g f c1 s1 (t2 v) (l a c1.st) R2) : WP P g f c s (t >>= t2) (M.bind m l c.st) R2 := fun hb =>
 wpAny_bind (wpAny_mono (h fun q => hb (bind_bad q)) (fun v s1 p => by
  cases p with | mk a c1 e X A k =>
  rw [bind_ok e] at hb ⊢
  exact (h2 a v c1 s1 X A k).at_ hP A hb) fun _ _ x => ⟨bind_exc x.1, x.2⟩)
theorem W.seq {t : Sem α} {m : M β} {R : Cx → β → α → Prop} {t2 : α → Sem γ} {l : β → M δ} {R2 : Cx → δ → γ → Prop}
  (h : W g f c s t (m c.st) R) (h2 : ∀ a v c1 s1, St g c1 s1 → Adv c c1 → R c1 a v → W g f c1 s1 (t2 v) (l a c1.st) R2) : W g f c s (t >>= t2) (M.bind m l c.st) R2 := WP.seq (noP c) h h2
theorem W.ret {t : Sem α} {b : β} {R : Cx → β → α → Prop} {v : α} (X : St g c s) (h : R c b v) (e : t = pure v := by rfl) : WP P g f c s t (.ok b c.st) R :=
 fun _ => e ▸ wpAny_pure ⟨b, c, rfl, X, .refl c, h⟩
theorem W.look {t : Sem α} {t2 : α → Sem γ} {k : O δ} {v : α} {R2 : Cx → δ → γ → Prop} (X : St g c s) (h : ∀ E (Q : α → Shared → Prop), (∀ s1, St g c s1 → Q v s1) → wpAny (model g.prog g.w) f.A t Q E s)
  (h2 : ∀ s1, St g c s1 → W g f c s1 (t2 v) k R2) : W g f c s (t >>= t2) k R2 := fun hb =>
 wpAny_bind (h _ _ fun s1 X1 => h2 s1 X1 hb)
theorem W.mono {t : Sem α} {k : O β} {R R' : Cx → β → α → Prop} (h : WP P g f c s t k R) (hR : ∀ c' a v, R c' a v → R' c' a v) : WP P g f c s t k R' := fun hb =>
 wpAny_mono (h hb) (fun v s' p => by cases p with | mk a c' e X A r => exact ⟨a, c', e, X, A, hR _ _ _ r⟩) fun _ _ x => x
theorem W.standAt {pos : Pos} {t : Unit → Sem α} {k : O β} {R : Cx → β → α → Prop} (h : WP P g f c s (t ()) k R) : WP P g f c s (standAt pos >>= t) k R := fun hb => wpAny_bind (wpAny_standAt (h hb))
theorem W.holding {vs : List Value} {t : Sem α} {k : O β} {R : Cx → β → α → Prop} (h : WP P g f c s t k R) : WP P g f c s (holding vs t) k R := fun hb => wpAny_holding (h hb)
theorem W.rule {tag : String} {t : Unit → Sem α} {k : O β} {R : Cx → β → α → Prop} (h : WP P g f c s (t ()) k R) : WP P g f c s (rule tag >>= t) k R := fun hb => wpAny_bind (wpAny_rule (h hb))
theorem W.eqv {t : Sem α} {k k' : O β} {R : Cx → β → α → Prop} (h : WP P g f c s t k R) (e : k = k') : WP P g f c s t k' R := e ▸ h
theorem W.bad {t : Sem α} {R : Cx → β → α → Prop} : WP P g f c s t .bad R := fun h => absurd rfl h
theorem W.bad' {t : Sem α} {R : Cx → β → α → Prop} {k : O β} (h : k = .bad) : WP P g f c s t k R := fun q => absurd h q
theorem W.optM {o : MSt → Option β} {t : Sem α} {l : β → M δ} {R : Cx → δ → α → Prop} (h : ∀ x, o c.st = some x → WP P g f c s t (l x c.st) R) : WP P g f c s t (M.bind (Mine.optM o) l c.st) R := by
 cases e : o c.st with
 | none => exact W.bad' (bind_bad (by unfold Mine.optM; rw [e]))
 | some x => exact W.eqv (h x e) (bind_ok (by unfold Mine.optM; rw [e])).symm
theorem W.opt {o : Option β} {t : Sem α} {l : β → M δ} {R : Cx → δ → α → Prop} (h : ∀ x, o = some x → WP P g f c s t (l x c.st) R) : WP P g f c s t (M.bind (M.opt o) l c.st) R := by
 cases o with
 | none => exact W.bad' rfl
 | some x => exact h x rfl
theorem W.ite {p : Prop} [Decidable p] {t : Sem α} {m : M β} {R : Cx → β → α → Prop} (h : p → WP P g f c s t (m c.st) R) : WP P g f c s t ((if p then m else M.bad) c.st) R := by
 by_cases q : p
 ·rw [if_pos q]; exact h q
 ·rw [if_neg q]; exact W.bad
end
end
section
open PySem PySem.W PySem.Calls PyProof.Rows
structure GOk (g : G) (mg mb : Str → Option Value) : Prop where
 kin : g.K.In g.hB
 nsg : g.hB.Ns mainGlobals mg
 nsb : g.hB.Ns builtinsNs mb
 lim : g.hB.NoLimit
 glob : ∀ x d, g.T.glob x = some d → ∃ v, mg x = some v ∧ VR (fun _ => False) g.hB g.n0 d v
 blt : ∀ x d, g.T.glob x = none → g.T.blt x = some d → mg x = none ∧ ∃ v, mb x = some v ∧ VR (fun _ => False) g.hB g.n0 d v
section
variable {g : G} {mg mb : Str → Option Value} {f : Fm} {c : Cx} {s : Shared} {sc : Scope} {n : Nat} {le : LEnv} {P : Addr → Prop}
theorem St.stays (X : St g c s) : ∀ a o, g.hB.get? a = some o → s.heap.get? a = some o := fun a o e => by rw [X.heap]; exact (X.base a o e).1
theorem St.kin (X : St g c s) (H : GOk g mg mb) : g.K.In s.heap := fun a o e => X.stays a o (H.kin a o e)
theorem VR.gl (X : St g c s) {d : D} {v : Value} (h : VR (fun _ => False) g.hB g.n0 d v) : VR c.S c.h c.n d v :=
 VR.mono X.n0 (fun a o e _ => X.base a o e) d v h
theorem W.of {α β : Type} {t : Sem α} {r : β} {R : Cx → β → α → Prop} (h : ∀ (Q : α → Shared → Prop) (E : Value → Shared → Prop), (∀ v s', St g c s' → R c r v → Q v s') → wpAny (model g.prog g.w) f.A t Q E s) : WP P g f c s t (.ok r c.st) R :=
 fun _ => h _ _ fun v s' X r' => ⟨r, c, rfl, X, .refl c, r'⟩
theorem W.toks {α β : Type} {t : Sem α} {r : β} {R : Cx → β → α → Prop} (X : St g c s) (h : ∀ (Q : α → Shared → Prop) (E : Value → Shared → Prop), (∀ v tk, R c r v → Q v { s with toks := tk }) → wpAny (model g.prog g.w) f.A t Q E s) : WP P g f c s t (.ok r c.st) R :=
 fun _ => any_toks (h _ _ fun _ _ r' l => ⟨r, c, rfl, X.same rfl rfl rfl l, .refl c, r'⟩)
def NewTok (c : Cx) (s : Shared) (l : List Nat) (tk tk' : Nat) : Prop := c.n l tk ∨ (tk = s.toks ∧ s.toks < tk')
theorem W.newStr (X : St g c s) {t : Sem Value} {l : List Nat} (h : ∀ (Q : Value → Shared → Prop) (E : Value → Shared → Prop), (∀ tk tk', NewTok c s l tk tk' → Q (.str ⟨l.toArray⟩ tk) { s with toks := tk' }) → wpAny (model g.prog g.w) f.A t Q E s) : W g f c s t (.ok (.d (.str l)) c.st) MR :=
 fun _ => any_toks (h _ _ fun tk tk' q le => by
  cases q with
  | inl q => exact ⟨_, c, rfl, X.same rfl rfl rfl le, .refl c, tk, rfl, q⟩
  | inr q =>
   cases q.1
   have Y := X.more (s' := { s with toks := tk' }) rfl rfl rfl l q.2
   exact ⟨_, c.tok s l, rfl, Y.1, Y.2, _, rfl, .inr ⟨rfl, rfl⟩⟩)
section
variable {u : Nat} (H : GOk g mg mb) (Y : FmOk sc f n u) (X : St g c s) (F : FrSt g sc f le c) {id : Str} {pos : Pos} {a : MV} (hd : (id == so "__debug__") = false)
include Y X F hd
theorem W.loc (hk : sc.names.lookup id = some .local) (hs : le id = some a) : W g f c s (eval (.Name id pos) f.env) (.ok a c.st) MR := by
 cases F.ns with | mk m ns r =>
 refine (r id a hk hs).elim fun v q => W.of fun Q E k => wpAny_Name (wpAny_loadName_local Y.fn (Y.kl id hk) (by rw [Y.loc, X.heap]; exact ns) q.1 (k v s X q.2)) hd
theorem W.far (hk : Mine.far sc id) (hc : (id == so "__classdict__") = false) (hs : le id = some a) : W g f c s (eval (.Name id pos) f.env) (.ok a c.st) MR :=
 (F.cel id a hk hs).elim fun ca q => by
  cases q.2 with | mk o v h2 h3 h4 h5 =>
  have hc1 : s.heap.IsCell ca (some v) := ⟨o, by rw [X.heap]; exact h2, h3⟩
  exact W.of fun Q E k => wpAny_Name ((Y.kc id hk).elim (fun z => wpAny_loadName_cell Y.fn z q.1 hc1 (k v s X h5)) fun z => wpAny_loadName_free Y.fn z q.1 hc1 (k v s X h5) hc) hd
end
theorem glob_any {u : Nat} (H : GOk g mg mb) (Y : FmOk sc f n u) (st : ∀ a o, g.hB.get? a = some o → s.heap.get? a = some o) {id : Str} {pos : Pos} (hd : (id == so "__debug__") = false) (hk : sc.names.lookup id = some .globalImplicit) {d : D}
  (hs : (match g.T.glob id with | some d => some d | none => g.T.blt id) = some d) {A : Around} {Q : Value → Shared → Prop} {E : Value → Shared → Prop} (q : ∀ v, VR (fun _ => False) g.hB g.n0 d v → Q v s) : wpAny (model g.prog g.w) A (eval (.Name id pos) f.env) Q E s := by
 have hg : s.heap.Ns f.env.globals mg := by rw [Y.glo]; exact H.nsg.keeps st
 have hb : s.heap.Ns f.env.builtins mb := by rw [Y.blt]; exact H.nsb.keeps st
 cases hg1 : g.T.glob id with
 | some d' =>
  rw [hg1] at hs
  cases hs
  exact (H.glob id d hg1).elim fun v z => Name_function_global Y.fn (Y.kg id hk) (loadGlobal_global hg z.1 (q v z.2)) hd
 | none =>
  rw [hg1] at hs
  have B := H.blt id d hg1 hs
  exact B.2.elim fun v z => Name_function_global Y.fn (Y.kg id hk) (loadGlobal_builtin hg B.1 hb z.1 (q v z.2)) hd
theorem W.glob {u : Nat} (H : GOk g mg mb) (Y : FmOk sc f n u) (X : St g c s) {id : Str} {pos : Pos} {a : MV} (hd : (id == so "__debug__") = false) (hk : sc.names.lookup id = some .globalImplicit) (hs : (match g.T.glob id with | some d => some d | none => g.T.blt id).map .d = some a) : W g f c s (eval (.Name id pos) f.env) (.ok a c.st) MR :=
 (mes hs).elim fun d z => by
  cases z.2
  exact W.of fun Q E k => glob_any H Y X.stays hd hk z.1 fun v r => k v s X (r.gl X)
theorem W.name {u : Nat} (H : GOk g mg mb) (Y : FmOk sc f n u) (X : St g c s) (F : FrSt g sc f le c) (id : Str) (pos : Pos) : W g f c s (eval (.Name id pos) f.env) (M.opt (evName g.T sc id le) c.st) MR := by
 unfold M.opt
 cases hs : evName g.T sc id le with
 | none => exact .bad
 | some a =>
  unfold evName at hs
  by_cases q : id = so "__debug__" ∨ id = so "__classdict__"
  ·rw [if_pos q] at hs; cases hs
  rw [if_neg q] at hs
  have hd := beq_false_of_ne fun z => q (.inl z)
  have hc := beq_false_of_ne fun z => q (.inr z)
  cases hk : sc.names.lookup id with
  | none => rw [hk] at hs; cases hs
  | some k =>
   rw [hk] at hs
   cases k with
   | «local» => exact W.loc Y X F hd hk hs
   | cell => exact W.far Y X F hd (.inl hk) hc hs
   | free => exact W.far Y X F hd (.inr hk) hc hs
   | globalImplicit => exact W.glob H Y X hd hk hs
   | _ => cases hs
theorem W.const (X : St g c s) (k : Const) (j : Nat) (pos : Pos) : W g f c s (eval (.Constant k j pos) f.env) (M.opt ((cval k).map .d) c.st) MR := by
 cases k with
 | none => exact W.ret X rfl
 | bool b => exact W.ret X rfl
 | int i => exact W.toks X fun Q E h => show wpAny _ _ (mkInt i) _ _ _ from fun _ _ _ => h _ _ ⟨_, rfl⟩
 | str x => exact W.newStr (l := x.cps.toList) X fun Q E h => show wpAny _ _ (mkText x) _ _ _ from fun _ _ _ => h s.toks (s.toks + 1) (.inr ⟨rfl, nls _⟩)
 | _ => exact .bad
end
section
variable {g : G} {mg mb : Str → Option Value} {f : Fm} {c : Cx} {s : Shared} {sc : Scope} {n : Nat} {le : LEnv}
inductive LisR (s : Shared) (c : Cx) (l : List MV) (v : Value) : Prop
 | mk (ad : Addr) (vs : Array Value) (k : Nat) (e : v = .ref ad) (i : IsL s.heap ad vs k) (r : MRs c l vs.toList)
theorem lOf_at (X : St g c s) {a : MV} {v : Value} (r : MR c a v) {l : List MV} (e : lOf a c.st = some l) : LisR s c l v := by
 cases a with
 | d x =>
  cases x with
  | lst l' =>
   cases e
   cases r with | mk ad vs k e g n r => exact ⟨ad, vs, k, e, X.heap ▸ g, MRs.of_d r⟩
  | _ => exact nos e
 | ref n =>
  have O := X.at_ n
  dsimp only [lOf] at e
  cases hm : c.st.objs n with
  | list l' =>
   rw [hm] at e O
   cases e
   cases O with | mk vs k g r' => exact ⟨_, vs, k, r.2, X.heap ▸ g, r'⟩
  | _ => rw [hm] at e; exact nos e
 | tup l => exact nos e
theorem str_len (l : List Nat) : (Str.mk l.toArray).length = l.length := rfl
theorem str_app (x y : List Nat) : (Str.mk x.toArray ++ Str.mk y.toArray : Str) = Str.mk (x ++ y).toArray := by
 show Str.append _ _ = _
 simp [Str.append]
theorem cap_line {k : Nat} (h : k ≤ cap) : k ≤ sizeLine := nlt h (by decide)
theorem W.newInt (X : St g c s) {t : Sem Value} {i : Int} (h : ∀ (Q : Value → Shared → Prop) (E : Value → Shared → Prop), (∀ tk tk', Q (.int i tk) { s with toks := tk' }) → wpAny (model g.prog g.w) f.A t Q E s) : W g f c s t (.ok (.d (.int i)) c.st) MR :=
 W.toks X fun Q E k => h Q E fun _ _ => k _ _ ⟨_, rfl⟩
theorem W.bool (X : St g c s) {t : Sem Value} {b : Bool} (h : ∀ (Q : Value → Shared → Prop) (E : Value → Shared → Prop), Q (.bool b) s → wpAny (model g.prog g.w) f.A t Q E s) : W g f c s t (.ok (.d (.bool b)) c.st) MR :=
 W.of fun Q E k => h Q E (k _ _ X rfl)
theorem post_vos {q : Prop} [Decidable q] {y z : Str} {t : Tok} {Q : Value → Shared → Prop} (hl : ¬ q → z.length ≤ sizeLine) (h1 : q → Q (.str y t) s) (h2 : ¬ q → Q (.str z s.toks) { s with toks := s.toks + 1 }) :
  (if q then Made.val (.str y t) else Made.str z).post Q s := by
 by_cases h : q
 ·rw [if_pos h]; exact h1 h
 ·rw [if_neg h]; exact ⟨hl h, h2 h⟩
theorem mkList_big {l : List MV} (h : ¬ l.length ≤ cap) (s : MSt) : mkList l s = .bad := if_neg h
theorem mkList_ok {l : List MV} (h : l.length ≤ cap) (s : MSt) : mkList l s = .ok (.ref s.next) ⟨s.next + 1, upd s.objs s.next (.list l)⟩ := if_pos h
theorem NewL.post {c1 : Cx} {l : List MV} {v : Value} {s' : Shared} (A1 : Adv c c1) (h : l.length ≤ cap) (e1 : c1.st = c.st) : NewL g c1 l v s' → Post (fun _ => False) g c (mkList l c.st) MR v s'
 | .mk c' X A e r => ⟨_, c', by rw [mkList_ok h, e, e1], X, A1.trans A, e1 ▸ r⟩
theorem W.list (X : St g c s) {t : Sem Value} {l : List MV} {vs : List Value} (r : MRs c l vs)
  (h : ∀ (Q : Value → Shared → Prop) (E : Value → Shared → Prop), vs.length ≤ sizeLine → Q (.ref s.heap.objs.size) { s with heap := s.heap.push { cls := .type "list", data := .seq vs.toArray } } → wpAny (model g.prog g.w) f.A t Q E s) :
  W g f c s t (mkList l c.st) MR := by
 by_cases hl : l.length ≤ cap
 ·exact fun _ => h _ _ (r.length ▸ cap_line hl) ((X.newList r (s' := { s with heap := s.heap.push (seqO "list" vs.toArray 0) }) rfl rfl rfl (nlr _)).post (.refl c) hl rfl)
 ·exact .bad' (mkList_big hl _)
theorem int?_eq {a : MV} {i : Int} (e : a.int? = some i) : a = .d (.int i) := by
 cases a with
 | d x =>
  cases x with
  | int => cases e; rfl
  | _ => exact nos e
 | _ => exact nos e
theorem str?_eq {a : MV} {l : List Nat} (e : a.str? = some l) : a = .d (.str l) := by
 cases a with
 | d x =>
  cases x with
  | str => cases e; rfl
  | _ => exact nos e
 | _ => exact nos e
theorem MR.int {a : MV} {i : Int} {v : Value} (e : a.int? = some i) (r : MR c a v) : ∃ t, v = .int i t := show MR c (.d (.int i)) v from int?_eq e ▸ r
theorem MR.str {a : MV} {l : List Nat} {v : Value} (e : a.str? = some l) (r : MR c a v) : ∃ t, v = .str ⟨l.toArray⟩ t ∧ c.n l t := show MR c (.d (.str l)) v from str?_eq e ▸ r
theorem W.arith (X : St g c s) {op : Operator} {F : Int → Int → Option Int} {a b : MV} {va vb : Value} (ra : MR c a va) (rb : MR c b vb)
  (h : ∀ x y z t u, F x y = some z → ∀ (Q : Value → Shared → Prop) (E : Value → Shared → Prop), (∀ tk tk', Q (.int z tk) { s with toks := tk' }) → wpAny (model g.prog g.w) f.A (binaryOp op (.int x t) (.int y u)) Q E s) :
  W g f c s (binaryOp op va vb) (arith F a b c.st) MR := by
 cases ea : a.int? with
 | none => exact .bad' (by unfold Mine.arith; rw [ea]; rfl)
 | some x =>
  cases eb : b.int? with
  | none => exact .bad' (by unfold Mine.arith; rw [ea, eb]; rfl)
  | some y =>
   cases ez : F x y with
   | none => exact .bad' (by unfold Mine.arith; rw [ea, eb]; dsimp only; rw [ez]; rfl)
   | some z =>
    obtain ⟨t, rfl⟩ := ra.int ea
    obtain ⟨u, rfl⟩ := rb.int eb
    have e : Mine.arith F a b c.st = .ok (.d (.int z)) c.st := by unfold Mine.arith; rw [ea, eb]; dsimp only; rw [ez]; rfl
    rw [e]
    exact W.newInt X fun Q E k => h x y z t u ez Q E k
theorem W.addS (X : St g c s) {x y : List Nat} {t u : Tok} (ra : c.n x t) (rb : c.n y u) : W g f c s (binaryOp .Add (.str ⟨x.toArray⟩ t) (.str ⟨y.toArray⟩ u)) (mkStr (x ++ y) c.st) MR := by
 unfold mkStr
 by_cases hc : (x ++ y).length ≤ cap
 ·rw [if_pos hc]
  refine W.newStr X fun Q E k => P.add_str ?_
  by_cases h1 : x = []
  ·subst h1; exact k _ _ (.inl rb)
  ·by_cases h2 : y = []
   ·subst h2
    have := k _ s.toks (.inl (by rw [lan]; exact ra))
    rw [lan] at this
    rw [if_neg (by simpa [str_len] using h1)]
    exact this
   ·rw [if_neg (by simpa [str_len] using h1), if_neg (by simpa [str_len] using h2), str_app]
    exact ⟨by rw [str_len]; exact cap_line hc, k _ _ (.inr ⟨rfl, nls _⟩)⟩
 ·rw [if_neg hc]; exact .bad
theorem W.addL (X : St g c s) {a b : MV} {va vb : Value} (ra : MR c a va) (rb : MR c b vb) : W g f c s (binaryOp .Add va vb) (addL a b c.st) MR := by
 unfold Mine.addL
 cases e1 : lOf a c.st with
 | none => exact .bad
 | some x =>
  cases e2 : lOf b c.st with
  | none => exact .bad
  | some y =>
   cases lOf_at X ra e1 with | mk l vs k e i1 r1 =>
   cases e
   cases lOf_at X rb e2 with | mk l2 vs2 k2 e i2 r2 =>
   cases e
   have e : (vs.toList ++ vs2.toList).toArray = vs ++ vs2 := Array.ext' (Array.toList_append).symm
   exact W.list X (r1.append r2) fun Q E hz q => P.add_list i1 i2 (e ▸ q) (by simpa using hz)
theorem W.add (X : St g c s) {a b : MV} {va vb : Value} (ra : MR c a va) (rb : MR c b vb) : W g f c s (binaryOp .Add va vb) (addV a b c.st) MR := by
 have hS : W g f c s (binaryOp .Add va vb) (Mine.addS a b c.st) MR := by
  unfold Mine.addS
  cases ea : a.str? with
  | none => exact W.addL X ra rb
  | some x =>
   cases eb : b.str? with
   | none => exact W.addL X ra rb
   | some y =>
    obtain ⟨t, rfl, na⟩ := ra.str ea
    obtain ⟨u, rfl, nb⟩ := rb.str eb
    exact W.addS X na nb
 unfold Mine.addV
 cases ea : a.int? with
 | none => exact hS
 | some x =>
  cases eb : b.int? with
  | none => exact hS
  | some y =>
   obtain ⟨t, rfl⟩ := ra.int ea
   obtain ⟨u, rfl⟩ := rb.int eb
   exact W.newInt X fun Q E k => add_int (k _ _)
theorem mul_ok {x y : Int} (hs : (small x || small y) = true) : IntMulOk x y := by
 simp only [small, Bool.or_eq_true, Bool.and_eq_true, decide_eq_true_eq] at hs
 rcases hs with q | q
 ·exact .of_left (intBits_le_64 q.1 q.2)
 ·exact .of_right (intBits_le_64 q.1 q.2)
theorem div_ok {x y : Int} (hs : 0 < y ∧ y < 2 ^ 62) : Builtin.divisionGoesByPylong x y = false := by
 have h1 : y.natAbs.log2 < 62 := (Nat.log2_lt (by omega)).mpr (by omega)
 have h0 : (y == 0) = false := by simp; omega
 unfold Builtin.divisionGoesByPylong
 simp only [h0, Bool.false_eq_true, if_false, Bool.and_eq_false_iff, decide_eq_false_iff_not]
 left; omega
theorem ite_some {p : Prop} [Decidable p] {z w : Int} (e : (if p then some z else none) = some w) : p ∧ z = w := by
 by_cases h : p
 ·rw [if_pos h] at e; exact ⟨h, Option.some.inj e⟩
 ·rw [if_neg h] at e; cases e
theorem W.binop (X : St g c s) (op : Operator) {a b : MV} {va vb : Value} (ra : MR c a va) (rb : MR c b vb) (hh : f.A.handled = none) : W g f c s (binaryOp op va vb) (binop op a b c.st) MR := by
 cases op with
 | Add => exact W.add X ra rb
 | Sub => exact W.arith X ra rb fun x y z t u e Q E k => by cases e; exact sub_int (k _ _)
 | Mult => exact W.arith X ra rb fun x y z t u e Q E k => by obtain ⟨hs, rfl⟩ := ite_some e; exact mul_int (k _ _) (mul_ok hs)
 | Mod => exact W.arith X ra rb fun x y z t u e Q E k => by obtain ⟨hs, rfl⟩ := ite_some e; exact mod_int' (by omega) (by rw [Int.fmod_eq_emod_of_nonneg _ (by omega)]; exact k _ _)
 | FloorDiv => exact W.arith X ra rb fun x y z t u e Q E k => by obtain ⟨hs, rfl⟩ := ite_some e; exact floordiv_int (by omega) (by rw [Int.fdiv_eq_ediv_of_nonneg _ (by omega)]; exact k _ _) (.inl (div_ok hs))
 | Pow => exact W.arith X ra rb fun x y z t u e Q E k => by obtain ⟨⟨rfl, rfl⟩, rfl⟩ := ite_some e; exact pow_int (by decide) (by decide) (k _ _)
 | _ => exact .bad
theorem beq_str (x y : List Nat) : ((Str.mk x.toArray) == (Str.mk y.toArray)) = decide (x = y) := by
 by_cases h : x = y
 ·subst h; simp
 ·rw [decide_eq_false h]
  have : Str.mk x.toArray ≠ Str.mk y.toArray := fun e => h (by have := congrArg (fun q => q.cps.toList) e; simpa using this)
  simpa using this
theorem isPrefixOf_iff {p l : List Nat} : p.isPrefixOf l = true ↔ l.take p.length = p := by
 rw [List.isPrefixOf_iff_prefix, List.prefix_iff_eq_take]
 exact eq_comm
theorem isSub_iff (p : List Nat) : ∀ l : List Nat, isSub p l = true ↔ ∃ i, i + p.length ≤ l.length ∧ (l.drop i).take p.length = p
 | [] => by
  unfold isSub
  constructor
  ·intro h
   have : p = [] := List.isEmpty_iff.mp h
   subst this
   exact ⟨0, by simp, by simp⟩
  ·rintro ⟨i, h1, h2⟩
   have : p.length = 0 := by simp only [List.length_nil] at h1; omega
   simp [List.length_eq_zero_iff.mp this]
 | c :: t => by
  unfold isSub
  rw [Bool.or_eq_true, isPrefixOf_iff, isSub_iff p t]
  constructor
  ·rintro (h | ⟨i, h1, h2⟩)
   ·refine ⟨0, ?_, by simpa using h⟩
    have := congrArg List.length h
    rw [List.length_take] at this
    omega
   ·exact ⟨i + 1, by simp only [llc]; omega, by simpa using h2⟩
  ·rintro ⟨i, h1, h2⟩
   cases i with
   | zero => left; simpa using h2
   | succ i => right; exact ⟨i, by simp only [llc] at h1; omega, by simpa using h2⟩
theorem occ_isSub (x p : List Nat) : (!(Builtin.Str.occurrences (Str.mk x.toArray) (Str.mk p.toArray) 0 (Str.mk x.toArray).length 1).isEmpty) = isSub p x := by
 rw [Bool.eq_iff_iff, StrLaws.found_iff, isSub_iff]
 simp only [StrLaws.subAt_eq, str_len, beq_iff_eq]
theorem strsD_eq : ∀ {ds : List D} {ys : List (List Nat)}, strsD ds = some ys → ds = ys.map .str
 | [], _, e => by cases e; rfl
 | d :: r, ys, e => by
  cases d with
  | str y => exact (mes e).elim fun zs q => by cases q.2; exact congrArg _ (strsD_eq q.1)
  | _ => exact nos e
def StrR (n : List Nat → Nat → Prop) (y : List Nat) (v : Value) : Prop := ∃ t, v = .str ⟨y.toArray⟩ t ∧ n y t
theorem strsD_all {S : Addr → Prop} {h : Heap} {n : List Nat → Nat → Prop} {ds : List D} {ys : List (List Nat)} {vs : List Value} (e : strsD ds = some ys) (r : VRs S h n ds vs) : All2 (StrR n) ys vs := by
 cases strsD_eq e
 have := r.all
 rw [All2.map] at this
 exact this
noncomputable def isStrV (x : List Nat) : Value → Bool
 | .str y _ => y == (⟨x.toArray⟩ : Str)
 | _ => false
theorem strs_any {n : List Nat → Nat → Prop} {x : List Nat} : ∀ {ys : List (List Nat)} {vs : List Value}, All2 (StrR n) ys vs → vs.any (isStrV x) = ys.any fun y => decide (x = y)
 | [], _, e => by cases e; rfl
 | y :: ys, _, .mk v vs e a b => by
  cases e
  refine a.elim fun t q => ?_
  cases q.1
  rw [List.any_cons, List.any_cons, strs_any b]
  exact congrArg (· || _) ((beq_str _ _).trans (decide_eq_decide.mpr eq_comm))
theorem eqAt_strs {n : List Nat → Nat → Prop} {x : List Nat} {t : Tok} {A : Around} {s : Shared} : ∀ {ys : List (List Nat)} {vs : List Value}, All2 (StrR n) ys vs → ∀ y, y ∈ vs → SeqAt.EqAt A s y (.str ⟨x.toArray⟩ t) (isStrV x y)
 | [], _, e, _, h => by cases e; cases h
 | y :: ys, _, .mk v vs e a b, z, h => by
  cases e
  cases h with
  | head => exact a.elim fun t q => by cases q.1; exact SeqAt.EqAt.str_str _ _ _ _
  | tail _ h => exact eqAt_strs b z h
theorem allD_eq : ∀ {l : List MV} {ds : List D}, allD l = some ds → l = ds.map .d
 | [], _, e => by cases e; rfl
 | v :: r, ds, e => by
  cases v with
  | d x => exact (mes e).elim fun zs q => by cases q.2; exact congrArg _ (allD_eq q.1)
  | _ => exact nos e
theorem MRs.to_d {c : Cx} {ds : List D} {vs : List Value} (r : MRs c (ds.map .d) vs) : VRs c.S c.h c.n ds vs := by
 have := r.all
 rw [All2.map] at this
 exact (VRs_eq ds).symm ▸ this
theorem allD_are {c : Cx} {l : List MV} {ds : List D} {vs : List Value} (e : allD l = some ds) (r : MRs c l vs) : VRs c.S c.h c.n ds vs := MRs.to_d (allD_eq e ▸ r)
end
section
variable {g : G} {mg mb : Str → Option Value} {f : Fm} {c : Cx} {s : Shared} {sc : Scope} {n : Nat} {le : LEnv}
theorem eqInt {A : Around} {s : Shared} (i : Int) (t t' : Tok) : SeqAt.EqAt A s (.int i t) (.int i t') true := by
 have := SeqAt.EqAt.int_int (A := A) (s := s) i t i t'; simpa using this
theorem eqStr {A : Around} {s : Shared} (i : Str) (t t' : Tok) : SeqAt.EqAt A s (.str i t) (.str i t') true := by
 have := SeqAt.EqAt.str_str (A := A) (s := s) i t i t'; simpa using this
theorem allT (l : List Nat) : l.all (fun _ => true) = true := List.all_eq_true.mpr fun _ _ => rfl
theorem tups {A : Around} {s : Shared} {R : D → Value → Prop} {l : List D} {a b : Addr} {vs vs' : Array Value} {k k' : Nat} (he : ∀ d ∈ l, ∀ v v', R d v → R d v' → SeqAt.EqAt A.in1 s v v' true) (hu : A.units < cLine)
  (g : s.heap.get? a = some (seqO "tuple" vs k)) (g' : s.heap.get? b = some (seqO "tuple" vs' k')) (r : All2 R l vs.toList) (r' : All2 R l vs'.toList) : SeqAt.RcAt A s (.ref a) (.ref b) true ∧ SeqAt.RcNeAt A s (.ref a) (.ref b) false := by
 have hsz : vs.size = vs'.size := (r.length l).symm.trans (r'.length l)
 have hj : ∀ (j : Nat) (h1 : j < vs.size) (h2 : j < vs'.size), SeqAt.EqAt A.in1 s vs[j] vs'[j] ((fun _ => true) j) := fun j h1 h2 =>
  (r.at_ l (k := j) (v := vs[j]) (by simp [h1])).elim fun d q => (r'.at_ l (k := j) (v := vs'[j]) (by simp [h2])).elim fun d' q' => by
   cases some_nil (q.1.symm.trans q'.1)
   exact he d (List.mem_of_getElem? q.1) _ _ q.2 q'.2
 have h1 := SeqAt.RcAt.tuples (A := A) (s := s) (e := fun _ => true) ⟨_, g, rfl, _, rfl⟩ ⟨_, g', rfl, _, rfl⟩ hu hj
 have h2 := SeqAt.RcNeAt.tuples (A := A) (s := s) (e := fun _ => true) ⟨_, g, rfl, _, rfl⟩ ⟨_, g', rfl, _, rfl⟩ hu hj
 rw [allT, beq_iff_eq.mpr hsz] at h1 h2
 exact ⟨h1, h2⟩
theorem eq_flat {S : Addr → Prop} {s : Shared} {N : List Nat → Nat → Prop} {k : Nat} {A : Around} {d : D} {v v' : Value} (hp : plainD k d = true) (r : VR S s.heap N d v) (r' : VR S s.heap N d v') (h : ∀ l, d = .tup l → SeqAt.EqAt A s v v' true) : SeqAt.EqAt A s v v' true := by
 cases d with
 | none => cases r; cases r'; exact SeqAt.EqAt.same _
 | bool => cases r; cases r'; exact SeqAt.EqAt.same _
 | int => exact r.elim fun _ q => r'.elim fun _ q' => by cases q; cases q'; exact eqInt _ _ _
 | str => exact r.elim fun _ q => r'.elim fun _ q' => by cases q.1; cases q'.1; exact eqStr _ _ _
 | tup l => exact h l rfl
 | _ => cases k <;> cases hp
theorem eq_plain {S : Addr → Prop} {s : Shared} {N : List Nat → Nat → Prop} : ∀ (k : Nat) {A : Around} {d : D} {v v' : Value}, plainD k d = true → VR S s.heap N d v → VR S s.heap N d v' → A.units + k < cLine → SeqAt.EqAt A s v v' true
 | 0, _, _, _, _, hp, r, r', _ => eq_flat hp r r' fun l e => by subst e; cases hp
 | k + 1, A, d, v, v', hp, r, r', hu => eq_flat hp r r' fun l e => by
  subst e
  cases r with | mk a vs m e g n r =>
  cases r' with | mk b vs' m' e' g' n' r' =>
  cases e; cases e'
  by_cases hab : a = b
  ·subst hab; exact SeqAt.EqAt.same _
  ·exact SeqAt.EqAt.of_refs hab (tups (fun d hd v v' w w' => eq_plain k (List.all_eq_true.mp hp d hd) w w' (by simp only [Around.in1_units]; omega)) (nll (nla _ _) hu) g g' (VRs.all r) (VRs.all r')).1
inductive TupS (A : Around) (s : Shared) (v v' : Value) : Prop
 | mk (a b : Addr) (e : v = .ref a) (e' : v' = .ref b) (h1 : SeqAt.RcAt A s (.ref a) (.ref b) true) (h2 : SeqAt.RcNeAt A s (.ref a) (.ref b) false)
theorem tuples_same {S : Addr → Prop} {s : Shared} {N : List Nat → Nat → Prop} {A : Around} {l : List D} {v v' : Value} (hp : plainD 9 (.tup l) = true) (r : VR S s.heap N (.tup l) v) (r' : VR S s.heap N (.tup l) v') (hu : A.units + 9 < cLine) : TupS A s v v' := by
 cases r with | mk a vs m e g n r =>
 cases r' with | mk b vs' m' e' g' n' r' =>
 have h := tups (fun d hd v v' w w' => eq_plain 8 (List.all_eq_true.mp hp d hd) w w' (by simp only [Around.in1_units]; omega)) (nll (nla _ _) hu) g g' (VRs.all r) (VRs.all r')
 exact ⟨a, b, e, e', h.1, h.2⟩
theorem list_nil {s : Shared} {A : Around} {a b : Addr} {x : List MV} {vs vs' : Array Value} {k k' : Nat} (i1 : IsL s.heap a vs k) (h1 : x.length = vs.size) (i2 : IsL s.heap b vs' k') (h2 : vs'.size = 0) (hu : A.units < cLine) :
  SeqAt.RcAt A s (.ref a) (.ref b) x.isEmpty ∧ SeqAt.RcNeAt A s (.ref a) (.ref b) (!x.isEmpty) := by
 cases x with
 | nil =>
  have hz : vs.size = vs'.size := by simp only [List.length_nil] at h1; omega
  have h0 : vs.size = 0 := by omega
  refine ⟨?_, ?_⟩
  ·have := SeqAt.RcAt.lists (A := A) (s := s) (e := fun _ => true) i1.isList i2.isList hz hu (fun j h1 h2 => by omega)
   simpa [h0] using this
  ·have := SeqAt.RcNeAt.lists (A := A) (s := s) (e := fun _ => true) i1.isList i2.isList hz hu (fun j h1 h2 => by omega)
   simpa [h0] using this
 | cons y r =>
  have hz : (vs.size != vs'.size) = true := by simp only [llc] at h1; simp; omega
  exact ⟨SeqAt.RcAt.lists_lengths i1.isList i2.isList hz hu, SeqAt.RcNeAt.lists_lengths i1.isList i2.isList hz hu⟩
def CmpG (g : G) (f : Fm) (s : Shared) (op : CmpOp) (va vb : Value) (t : Bool) : Prop := ∀ (Q : Value → Shared → Prop) (E : Value → Shared → Prop), Q (.bool t) s → wpAny (model g.prog g.w) f.A (compareOp op va vb) Q E s
theorem cInt_at {F : Int → Int → Bool} {op : CmpOp} {a b : MV} {va vb : Value} {t : Bool} (ra : MR c a va) (rb : MR c b vb) (e : cInt F a b = some t) (h : ∀ x y t u, CmpG g f s op (.int x t) (.int y u) (F x y)) : CmpG g f s op va vb t := by
 unfold cInt at e
 cases ea : a.int? with
 | none => rw [ea] at e; exact nos e
 | some x =>
  cases eb : b.int? with
  | none => rw [ea, eb] at e; exact nos e
  | some y =>
   rw [ea, eb] at e
   cases e
   exact (ra.int ea).elim fun t q => (rb.int eb).elim fun u q' => by cases q; cases q'; exact h x y t u
theorem eqT_some {a b : List D} {t : Bool} (e : eqT a b = some t) : a = b ∧ plainD 9 (.tup a) = true ∧ t = true := by
 by_cases q : a = b ∧ plainD 9 (.tup a) = true
 ·exact ⟨q.1, q.2, (some_nil ((if_pos q).symm.trans e)).symm⟩
 ·exact nos ((if_neg q).symm.trans e)
theorem eqD_at (X : St g c s) (hu : f.A.units + 20 < cLine) {x y : D} {va vb : Value} {t : Bool} (ra : VR c.S c.h c.n x va) (rb : VR c.S c.h c.n y vb) (e : eqD x y = some t) : CmpG g f s .Eq va vb t ∧ CmpG g f s .NotEq va vb !t := by
 cases x with
 | int i =>
  cases y with
  | int j => cases e; exact ra.elim fun _ q => rb.elim fun _ q' => by cases q; cases q'; exact ⟨fun Q E k => eq_int k, fun Q E k => ne_int k⟩
  | _ => exact nos e
 | str i =>
  cases y with
  | str j => cases e; exact ra.elim fun _ q => rb.elim fun _ q' => by cases q.1; cases q'.1; exact ⟨fun Q E k => eq_str (by rw [beq_str]; exact k), fun Q E k => ne_str (by unfold bne; rw [beq_str]; exact k)⟩
  | _ => exact nos e
 | tup i =>
  cases y with
  | tup j =>
   have q := eqT_some e
   cases q.1
   cases q.2.2
   rw [← X.heap] at ra rb
   cases tuples_same (A := f.A) q.2.1 ra rb (by omega) with | mk a b e e' h1 h2 =>
   cases e; cases e'
   exact ⟨fun Q E k => h1 g.prog g.w E Q k, fun Q E k => h2 g.prog g.w E Q k⟩
  | _ => exact nos e
 | _ => exact nos e
theorem nil?_eq {o : MObj} (h : nil? o = true) : o = .list [] := by
 cases o with
 | list l => cases l with
  | nil => rfl
  | cons _ _ => cases h
 | _ => cases h
theorem cEq_at (X : St g c s) (hu : f.A.units + 20 < cLine) {a b : MV} {va vb : Value} {t : Bool} (ra : MR c a va) (rb : MR c b vb) (e : cEq a b c.st = some t) : CmpG g f s .Eq va vb t ∧ CmpG g f s .NotEq va vb !t := by
 cases b with
 | ref n =>
  dsimp only [cEq] at e
  cases hn : nil? (c.st.objs n) with
  | false => rw [hn] at e; exact nos e
  | true =>
   rw [hn, if_pos rfl] at e
   refine (mes e).elim fun x q => ?_
   cases q.2
   cases lOf_at X ra q.1 with | mk l vs j e i1 r1 =>
   cases lOf_at X rb (l := []) (by dsimp only [lOf]; rw [nil?_eq hn]) with | mk l2 vs2 j2 e' i2 r2 =>
   cases e; cases e'
   have h := list_nil (A := f.A) (x := x) i1 r1.length i2 r2.length.symm (by omega)
   exact ⟨fun Q E k => h.1 g.prog g.w E Q k, fun Q E k => h.2 g.prog g.w E Q k⟩
 | d y =>
  cases a with
  | d x => exact eqD_at X hu ra rb e
  | _ => exact nos e
 | tup _ => exact nos e
theorem none?_at {a : MV} {va : Value} {t : Bool} (ra : MR c a va) (e : none? a = some t) : (t = true ∧ va = .none) ∨ (t = false ∧ va ≠ .none) := by
 cases a with
 | d x =>
  cases x with
  | none => cases e; exact .inl ⟨rfl, ra⟩
  | inst _ _ => cases e; cases ra with | mk _ _ _ _ e => exact .inr ⟨rfl, fun q => by cases e.symm.trans q⟩
  | tup _ => cases e; cases ra with | mk _ _ _ e => exact .inr ⟨rfl, fun q => by cases e.symm.trans q⟩
  | str _ => cases e; exact ra.elim fun _ e => .inr ⟨rfl, fun q => by cases e.1.symm.trans q⟩
  | _ => exact nos e
 | _ => exact nos e
theorem cIs_at {a b : MV} {va vb : Value} {t : Bool} (ra : MR c a va) (rb : MR c b vb) (e : cIs a b = some t) : CmpG g f s .Is va vb t ∧ CmpG g f s .IsNot va vb !t := by
 cases b with
 | d y =>
  cases y with
  | none =>
   cases (rb : vb = .none)
   refine (none?_at ra e).elim (fun h => ?_) fun h => ?_
   ·cases h.1; cases h.2; exact ⟨fun Q E k => is_none_none k, fun Q E k => isnot_none_none k⟩
   ·cases h.1; exact ⟨fun Q E k => is_none_ne h.2 k, fun Q E k => isnot_none_ne h.2 k⟩
  | _ => exact nos e
 | _ => exact nos e
theorem in_tup {ta : Value} {F : Bool → Bool} {op : CmpOp} {x : List Nat} {t : Bool} {l : List D} {b : Value} (rb : VR c.S c.h c.n (.tup l) b) (e : strEqAny x l = some t)
  (h : ∀ a vs k ys, c.h.get? a = some (seqO "tuple" vs k) → All2 (StrR c.n) ys vs.toList → CmpG g f s op ta (.ref a) (F (ys.any fun y => decide (x = y)))) : CmpG g f s op ta b (F t) :=
 (mes e).elim fun ys q => by
  cases q.2
  cases rb with | mk a vs k e g n r =>
  cases e
  exact h a vs k ys g (strsD_all q.1 r)
theorem any_str {x : List Nat} {ys : List (List Nat)} {vs : Array Value} (r : All2 (StrR c.n) ys vs.toList) : vs.any (isStrV x) = ys.any fun y => decide (x = y) := by rw [← Array.any_toList]; exact strs_any r
theorem cIn_at (X : St g c s) {a b : MV} {va vb : Value} {t : Bool} (ra : MR c a va) (rb : MR c b vb) (e : cIn a b c.st = some t) : CmpG g f s .In va vb t := by
 unfold cIn at e
 cases ea : a.str? with
 | none => rw [ea] at e; exact nos e
 | some x =>
  rw [ea] at e
  refine (ra.str ea).elim fun ta q => ?_
  cases q.1
  cases b with
  | d y =>
   cases y with
   | str y => cases e; exact rb.elim fun _ q => by cases q.1; exact fun Q E k => in_str (by rw [occ_isSub]; exact k)
   | tup y => exact in_tup (F := id) rb e fun a vs k ys g r Q E k => SeqAt.in_tupleAt (isStrV x) ⟨_, X.heap ▸ g, rfl, _, rfl⟩ (fun z hz => eqAt_strs r z (Array.mem_toList_iff.mpr hz)) (by rw [any_str r]; exact k)
   | _ => exact nos e
  | ref m =>
   refine (bes e).elim fun ds p => (bes p.1).elim fun l p' => (mes p.2).elim fun ys q => ?_
   cases q.2
   cases lOf_at X rb p'.1 with | mk l2 vs2 j2 e i2 r2 =>
   cases e
   have r := strsD_all q.1 (allD_are p'.2 r2)
   exact fun Q E k => SeqAt.in_listAt (isStrV x) i2.isList (fun z hz => eqAt_strs r z (Array.mem_toList_iff.mpr hz)) (by rw [any_str r]; exact k)
  | tup _ => exact nos e
theorem cNi_at (X : St g c s) {a b : MV} {va vb : Value} {t : Bool} (ra : MR c a va) (rb : MR c b vb) (e : cNi a b = some t) : CmpG g f s .NotIn va vb t := by
 cases b with
 | d y =>
  refine (mes e).elim fun t' q => ?_
  cases q.2
  have e := q.1
  unfold cIn at e
  cases ea : a.str? with
  | none => rw [ea] at e; exact nos e
  | some x =>
   rw [ea] at e
   refine (ra.str ea).elim fun ta q => ?_
   cases q.1
   cases y with
   | str y => cases e; exact rb.elim fun _ q => by cases q.1; exact fun Q E k => notIn_str (by rw [occ_isSub]; exact k)
   | tup y => exact in_tup (F := (!·)) rb e fun a vs k ys g r Q E k => SeqAt.notIn_tupleAt (isStrV x) ⟨_, X.heap ▸ g, rfl, _, rfl⟩ (fun z hz => eqAt_strs r z (Array.mem_toList_iff.mpr hz)) (by rw [any_str r]; exact k)
   | _ => exact nos e
 | _ => exact nos e
theorem cmp_at (X : St g c s) (op : CmpOp) {a b : MV} {va vb : Value} (ra : MR c a va) (rb : MR c b vb) (hu : f.A.units + 20 < cLine) {t : Bool} (e : Mine.cmp op a b c.st = some t) : CmpG g f s op va vb t := by
 cases op with
 | Eq => exact (cEq_at X hu ra rb e).1
 | NotEq => exact (mes e).elim fun t' q => q.2 ▸ (cEq_at X hu ra rb q.1).2
 | Lt => exact cInt_at ra rb e fun x y t u Q E k => lt_int k
 | LtE => exact cInt_at ra rb e fun x y t u Q E k => le_int k
 | Gt => exact cInt_at ra rb e fun x y t u Q E k => gt_int k
 | GtE => exact cInt_at ra rb e fun x y t u Q E k => ge_int k
 | Is => exact (cIs_at ra rb e).1
 | IsNot => exact (mes e).elim fun t' q => q.2 ▸ (cIs_at ra rb q.1).2
 | In => exact cIn_at X ra rb e
 | NotIn => exact cNi_at X ra rb e
end
theorem filterMap_range {α : Type} (l : List α) (a : Nat) : ∀ m, (List.range m).filterMap (fun k => l[a + k]?) = (l.drop a).take m
 | 0 => by simp
 | m + 1 => by
  rw [List.range_succ, List.filterMap_append, filterMap_range l a m, List.take_succ, List.getElem?_drop]
  congr 1
theorem cnt (a b : Nat) : (if (1 : Int) > 0 then if (a : Int) < b then ((b : Int) - a + 1 - 1) / 1 else 0 else if (a : Int) > b then ((a : Int) - b - 1 - 1) / -1 else 0).toNat = b - a := by
 rw [if_pos (by decide)]
 by_cases h : (a : Int) < b
 ·rw [if_pos h, Int.ediv_one, Int.add_sub_cancel, Int.toNat_sub]
 ·rw [if_neg h, Nat.sub_eq_zero_of_le (Int.ofNat_le.mp (Int.not_lt.mp h))]; rfl
theorem range_pick {α : Type} (l : List α) (a b : Nat) : (sliceRange (a : Int) (b : Int) 1).filterMap (fun x => l[x]?) = (l.take b).drop a := by
 have e : (fun x => l[x]?) ∘ (fun k : Nat => ((a : Int) + 1 * (k : Int)).toNat) = fun k => l[a + k]? := funext fun k => congrArg (l[·]?) (by show ((a : Int) + 1 * (k : Int)).toNat = _; rw [Int.one_mul, ← Int.natCast_add, Int.toNat_natCast])
 show ((List.range (Int.toNat _)).map _).filterMap _ = _
 rw [cnt, List.filterMap_map, e, filterMap_range, List.drop_take]
theorem sliceRange_len (a b : Nat) : (sliceRange (a : Int) (b : Int) 1).length = b - a := by
 show ((List.range (Int.toNat _)).map _).length = _
 rw [llm, List.length_range, cnt]
theorem take_min {α : Type} (l : List α) (h : Nat) : l.take (min h l.length) = l.take h := by rw [← List.take_take, List.take_length]
theorem drop_min {α : Type} (l m : List α) (h : Nat) (hm : m.length ≤ l.length) : m.drop (min h l.length) = m.drop h := by
 by_cases q : h ≤ l.length
 ·rw [Nat.min_eq_left q]
 ·rw [Nat.min_eq_right (Nat.le_of_not_le q), List.drop_eq_nil_of_le hm, List.drop_eq_nil_of_le (nlt hm (Nat.le_of_not_le q))]
theorem cut_min {α : Type} (l : List α) (lo hi : Option Nat) : (l.take (min (hi.getD l.length) l.length)).drop (min (lo.getD 0) l.length) = cut l lo hi := by
 rw [take_min]
 cases hi with
 | none => exact (congrArg (List.drop _) (List.take_length)).trans (drop_min l l _ (nlr _))
 | some h => exact drop_min l (l.take h) _ (List.length_take_le' h l)
theorem lo_nat (lo : Option Nat) (n : Nat) : kms_lo (lo.map (Int.ofNat ·)) n = min (lo.getD 0) n := by
 cases lo with
 | none => exact (Nat.zero_min n).symm
 | some a => exact if_neg (t := n - (-(a : Int)).toNat) (Int.not_lt.mpr (Int.natCast_nonneg a))
theorem hi_nat (hi : Option Nat) (n : Nat) : kms_hi (hi.map (Int.ofNat ·)) n = min (hi.getD n) n := by
 cases hi with
 | none => exact (Nat.min_self n).symm
 | some a => exact if_neg (t := n - (-(a : Int)).toNat) (Int.not_lt.mpr (Int.natCast_nonneg a))
theorem pick_cut (vs : Array Value) (lo hi : Option Nat) : slicePick vs (lo.map (Int.ofNat ·)) (hi.map (Int.ofNat ·)) none = (cut vs.toList lo hi).toArray := by
 rw [kms_pick_eq, kms_pick, lo_nat, hi_nat, ← List.drop_take, cut_min]
theorem strIdx_range (l : List Nat) (lo hi : Option Nat) : Builtin.Str.strSliceIndices (lo.map (Int.ofNat ·)) (hi.map (Int.ofNat ·)) 1 l.length = sliceRange ((min (lo.getD 0) l.length : Nat) : Int) ((min (hi.getD l.length) l.length : Nat) : Int) 1 := by
 have e := kms_bounds (lo.map (Int.ofNat ·)) (hi.map (Int.ofNat ·)) l.length
 rw [lo_nat, hi_nat] at e
 exact congrArg (fun p : Int × Int × Int => sliceRange p.1 p.2.1 1) e
theorem strIdx_cut (l : List Nat) (lo hi : Option Nat) : (Builtin.Str.strSliceIndices (lo.map (Int.ofNat ·)) (hi.map (Int.ofNat ·)) 1 l.length).filterMap (fun x => l[x]?) = cut l lo hi := by
 rw [strIdx_range, range_pick, cut_min]
theorem strIdx_whole (l : List Nat) (lo hi : Option Nat) (h : (Builtin.Str.strSliceIndices (lo.map (Int.ofNat ·)) (hi.map (Int.ofNat ·)) 1 l.length).length = l.length) : cut l lo hi = l := by
 rw [strIdx_range, sliceRange_len] at h
 rw [← cut_min]
 exact ((List.drop_sublist _ _).trans (List.take_sublist _ _)).eq_of_length (by rw [List.length_drop, List.length_take, Nat.min_eq_left (Nat.min_le_right _ _)]; exact h)
section
variable {g : G} {mg mb : Str → Option Value} {f : Fm} {c : Cx} {s : Shared} {sc : Scope} {n : Nat} {le : LEnv}
theorem seqIdx {k : Int} {n : Nat} (h0 : 0 ≤ k) (h : k.toNat < n) : seqIndex? k n = some k.toNat := by
 have e : (if k < 0 then k + n else k) = k := if_neg (Int.not_lt.mpr h0)
 unfold seqIndex?
 simp only [e]
 rw [if_pos (by rw [decide_eq_true h0, decide_eq_true ((Int.toNat_lt h0).mp h)]; rfl)]
theorem sub_tail {value slice : Expr} {o i : Value} {T id : String} {Q : Value → Shared → Prop} {E : Value → Shared → Prop} {A : Around} {s : Shared} (hT : s.TypeIs o T)
  (hl : typeLookup (.type T) "__getitem__" = pure (some (.builtin id))) (hg : wpAny (model g.prog g.w) A (PySem.getItem o i) Q E s) : wpAny (model g.prog g.w) A (subscriptTail value slice o i) Q E s := by
 have : ∃ ops, subscripted slice false o i = operate ops (PySem.getItem o i) := by
  unfold subscripted
  split
  ·exact ⟨_, rfl⟩
  ·exact Bool.noConfusion (by assumption)
  ·exact ⟨_, rfl⟩
 exact this.elim fun ops e => tail_any hT hl hg e
theorem IsL.typeIs {s : Shared} {a : Addr} {vs : Array Value} {k : Nat} (i : IsL s.heap a vs k) : s.TypeIs (.ref a) "list" := ⟨_, i, rfl⟩
theorem pick_W {α : Type} {F : α → MV} {l : List α} {k : Int} {tm : Sem Value} (h : 0 ≤ k → k < 2 ^ 62 → ∀ x, l[k.toNat]? = some x → W g f c s tm (.ok (F x) c.st) MR) : W g f c s tm (pick F l k c.st) MR := by
 unfold Mine.pick
 by_cases hk : 0 ≤ k ∧ k < 2 ^ 62
 ·rw [if_pos hk]
  cases hx : l[k.toNat]? with
  | none => exact .bad
  | some x => exact h hk.1 hk.2 x hx
 ·rw [if_neg hk]; exact .bad
theorem W.itemStr (X : St g c s) {value slice : Expr} {l : List Nat} {k : Int} {t u : Tok} : W g f c s (subscriptTail value slice (.str ⟨l.toArray⟩ t) (.int k u)) (pick (fun c => .d (.str [c])) l k c.st) MR :=
 pick_W fun h0 h1 x hx => W.newStr X fun Q E q => sub_tail (typeIs_str _ _ _) F.slot_str_getitem.lookup (P.getItem_str (i := k) (c := x) (by simp; omega) (by
  rw [str_len, seqIdx h0 (List.getElem?_eq_some_iff.mp hx).1]; simpa using hx) (q _ _ (.inr ⟨rfl, nls _⟩)))
theorem W.itemTup (X : St g c s) {value slice : Expr} {l : List D} {k : Int} {va : Value} {u : Tok} (r : VR c.S c.h c.n (.tup l) va) : W g f c s (subscriptTail value slice va (.int k u)) (pick .d l k c.st) MR :=
 pick_W fun h0 h1 x hx => by
  cases r with | mk a vs m e g n r =>
  cases e
  rw [← X.heap] at g
  refine ((VRs.all r).get l hx).elim fun v q => ?_
  have hlt := (List.getElem?_eq_some_iff.mp q.1).1
  exact W.of fun Q E k => sub_tail (T := "tuple") ⟨_, g, rfl⟩ F.slot_tuple_getitem.lookup (getItem_tuple ⟨_, g, rfl, _, rfl⟩ (by omega) (by omega) (seqIdx h0 hlt) (Array.getElem?_toList ▸ q.1) (k _ _ X q.2))
theorem W.itemLst (X : St g c s) {value slice : Expr} {a : MV} {k : Int} {va : Value} {u : Tok} (ra : MR c a va) : W g f c s (subscriptTail value slice va (.int k u)) (match lOf a c.st with | some l => pick id l k c.st | none => .bad) MR := by
 cases hl : lOf a c.st with
 | none => exact .bad
 | some l =>
  refine pick_W fun h0 h1 x hx => ?_
  cases lOf_at X ra hl with | mk ad vs j e i1 r1 =>
  cases e
  exact (r1.get hx).elim fun v q => W.of fun Q E k => sub_tail (IsL.typeIs i1) list_getitem_lookup (wpAny_getItem_list i1.isList h0 (by omega) (Array.getElem?_toList ▸ q.1) (k _ _ X q.2))
theorem W.item (X : St g c s) {value slice : Expr} {a i : MV} {va vi : Value} (ra : MR c a va) (ri : MR c i vi) : W g f c s (subscriptTail value slice va vi) (getItem a i c.st) MR := by
 unfold Mine.getItem
 cases ei : i.int? with
 | none => exact .bad
 | some k =>
  refine (ri.int ei).elim fun u q => ?_
  cases q
  have hL := W.itemLst (f := f) X (value := value) (slice := slice) (k := k) (u := u) ra
  cases a with
  | d x =>
   cases x with
   | str l => exact ra.elim fun t q => by cases q.1; exact W.itemStr X
   | tup l => exact W.itemTup X ra
   | _ => exact hL
  | _ => exact hL
inductive OptR (c : Cx) : Option D → Value → Prop
 | none : OptR c none .none
 | some (d : D) (v : Value) : MR c (.d d) v → OptR c (some d) v
inductive PartR (v : Value) (b : Option Nat) : Prop
 | mk (p : Option (Int × Tok)) (h : IsPart v (b.map (Int.ofNat ·))) (e : v = partValue p) (q : p.map (·.1) = b.map (Int.ofNat ·))
theorem bound_part {o : Option D} {b : Option Nat} (h : bound o = some b) {v : Value} (r : OptR c o v) : PartR v b := by
 cases r with
 | none => cases h; exact ⟨none, .none, rfl, rfl⟩
 | some d v r =>
  cases d with
  | int i =>
   by_cases h0 : 0 ≤ i
   ·cases (if_pos h0).symm.trans h
    refine r.elim fun t e => ?_
    cases e
    have e : Int.ofNat i.toNat = i := Int.toNat_of_nonneg h0
    exact ⟨some (i, t), by rw [Option.map_some, e]; exact .int i t, rfl, congrArg some e.symm⟩
   ·exact nos ((if_neg h0).symm.trans h)
  | _ => exact nos h
def W2 {α β γ : Type} (g : G) (f : Fm) (c : Cx) (s : Shared) (m : Sem α) (k : α → Sem γ) (r : O β) (R : Cx → β → γ → Prop) : Prop :=
 r ≠ .bad → wpAny (model g.prog g.w) f.A m (fun i s1 => wpAny (model g.prog g.w) f.A (k i) (Post (fun _ => False) g c r R) (fun e s' => r = .exc ∧ Exc g f.envs c e s') s1) (fun e s' => r = .exc ∧ Exc g f.envs c e s') s
theorem W2.bad {α β γ : Type} {m : Sem α} {k : α → Sem γ} {R : Cx → β → γ → Prop} : W2 g f c s m k .bad R := fun h => absurd rfl h
theorem W2.made {lo' hi' : Value} {k : M MV} {tm : Value → Sem Value} (X : St g c s) (h : ∀ c1 s1, St g c1 s1 → Adv c c1 → s1.heap = s.heap.push { cls := .type "slice", data := .fields #[lo', hi', .none] } → W g f c1 s1 (tm (.ref s.heap.objs.size)) (k c1.st) MR) :
  W2 g f c s (newFields "slice" [lo', hi', .none]) tm (k c.st) MR := fun hb => by
 have Y := X.push { cls := .type "slice", data := .fields #[lo', hi', .none] } (s' := { s with heap := s.heap.push { cls := .type "slice", data := .fields #[lo', hi', .none] } }) rfl rfl rfl (nlr _)
 exact wpAny_newObj_type ((h _ _ Y.1 Y.2 rfl).at_ (noP c) Y.2 hb) (by simp [sizeOk]; decide)
theorem cut_len (l : List Nat) (lo hi : Option Nat) : (cut l lo hi).length ≤ l.length := by
 rw [← cut_min]
 exact ((List.drop_sublist _ _).trans (List.take_sublist _ _)).length_le
theorem MRs.cut {l : List MV} {vs : List Value} (r : MRs c l vs) (lo hi : Option Nat) : MRs c (cut l lo hi) (cut vs lo hi) := by
 unfold Mine.cut
 cases hi with
 | none => exact r.drop _
 | some h => exact (r.take _).drop _
theorem W.sliceStr (X : St g c s) {value slice : Expr} {l : List Nat} {lo hi : Option Nat} {t : Tok} {i : Addr} {p q : Option (Int × Tok)} (hl : l.length ≤ cap) (a0 : c.n l t) (hi' : s.heap.get? i = some { cls := .type "slice", data := .fields #[partValue p, partValue q, .none] })
  (e2 : p.map (·.1) = lo.map (Int.ofNat ·)) (e4 : q.map (·.1) = hi.map (Int.ofNat ·)) : W g f c s (subscriptTail value slice (.str ⟨l.toArray⟩ t) (.ref i)) (.ok (.d (.str (cut l lo hi))) c.st) MR := by
 refine W.newStr X fun Q E k => sub_tail (typeIs_str _ _ _) F.slot_str_getitem.lookup (wpAny_getItem_str_slice (l := p) (u := q) (st := none) ⟨_, hi', rfl, rfl⟩ rfl ?_)
 have e5 := strIdx_cut l lo hi
 have e6 := strIdx_whole l lo hi
 rw [← e2, ← e4] at e5 e6
 have e7 : slicePicked (⟨l.toArray⟩ : Str) p q none = Builtin.Str.strSliceIndices (p.map (·.1)) (q.map (·.1)) 1 l.length := rfl
 unfold sliceMade
 rw [e7]
 have e8 : (Builtin.Str.strSliceIndices (p.map (·.1)) (q.map (·.1)) 1 l.length).filterMap ((⟨l.toArray⟩ : Str).cps[·]?) = cut l lo hi := by rw [← e5]; simp
 rw [e8]
 refine post_vos (fun _ => cap_line (nlt (cut_len l lo hi) hl)) (fun h => ?_) fun _ => k _ _ (.inr ⟨rfl, nls _⟩)
 have e10 := e6 (by simp only [Bool.and_eq_true, beq_iff_eq] at h; exact h.2)
 have := k _ s.toks (.inl (by rw [e10]; exact a0))
 rw [e10] at this
 exact this
theorem W.sliceLst (X : St g c s) {value slice : Expr} {l : List MV} {lo hi : Option Nat} {ad i : Addr} {vs : Array Value} {j : Nat} {vl vu : Value} (i1 : IsL s.heap ad vs j) (r1 : MRs c l vs.toList) (hc : l.length ≤ cap) (hi' : s.heap.get? i = some { cls := .type "slice", data := .fields #[vl, vu, .none] })
  (pl : IsPart vl (lo.map (Int.ofNat ·))) (pu : IsPart vu (hi.map (Int.ofNat ·))) : W g f c s (subscriptTail value slice (.ref ad) (.ref i)) (mkList (cut l lo hi) c.st) MR := by
 by_cases hk : (cut l lo hi).length ≤ cap
 ·refine W.list X (r1.cut lo hi) fun Q E hz q1 => sub_tail (IsL.typeIs i1) list_getitem_lookup (wpAny_getItem_list_slice i1.isList (vl := vl) (vu := vu) (vs := .none) ⟨_, hi', rfl, rfl⟩ pl pu .none (by simp) ?_ ?_)
  ·rw [pick_cut]; exact q1
  ·exact (show l.length = vs.size from r1.length) ▸ cap_line hc
 ·exact .bad' (by unfold mkList; rw [if_neg hk])
theorem W.slice (X : St g c s) {value slice : Expr} {a : MV} {lo hi : Option D} {va vl vu : Value} (ra : MR c a va) (rl : OptR c lo vl) (ru : OptR c hi vu) :
  W2 g f c s (newFields "slice" [vl, vu, .none]) (fun i => subscriptTail value slice va i) (getSlice a lo hi c.st) MR := by
 unfold Mine.getSlice
 cases h1 : bound lo with
 | none => exact .bad
 | some lo' =>
  cases h2 : bound hi with
  | none => exact .bad
  | some hi' =>
   cases bound_part h1 rl with | mk p pl e1 e2 =>
   cases bound_part h2 ru with | mk q pu e3 e4 =>
   cases e1; cases e3
   show W2 g f c s _ _ (sliceOf a lo' hi' c.st) MR
   unfold sliceOf
   cases ea : a.str? with
   | some l =>
    refine (ra.str ea).elim fun t z => ?_
    cases z.1
    by_cases hl : l.length ≤ cap
    ·exact W2.made (k := if l.length ≤ cap then M.pure (.d (.str (cut l lo' hi'))) else M.bad) X fun c1 s1 X1 A1 hs => by
      rw [if_pos hl]
      exact W.sliceStr X1 hl (A1.n _ _ z.2) (hs ▸ Heap.get?_push_size _ rfl) e2 e4
    ·dsimp only; rw [if_neg hl]; exact .bad
   | none =>
    dsimp only
    cases hl : lOf a c.st with
    | none => exact .bad
    | some l =>
     by_cases hc : l.length ≤ cap
     ·dsimp only
      rw [if_pos hc]
      cases lOf_at X ra hl with | mk ad vs j e i1 r1 =>
      cases e
      exact W2.made X fun c1 s1 X1 A1 hs => W.sliceLst X1 (hs ▸ i1.push _) (r1.mono A1 (noP c)) hc (hs ▸ Heap.get?_push_size _ rfl) pl pu
     ·dsimp only; rw [if_neg hc]; exact .bad
end
structure CK (K : Frag) (k : Addr) (ci : ClsInfo) : Prop where
 ga : findIn K (.ref k) "__getattribute__" = some (some (.builtin "object.__getattribute__"))
 gt : findIn K (.ref k) "__getattr__" = some none
 hd : hasDictIn K k = true
 sa : findIn K (.ref k) "__setattr__" = some (some (.builtin "object.__setattr__"))
 po : plainOver K k = true
 data : ∀ x, ci.data x = true → findIn K (.ref k) x = some none
 meth : ∀ x f, ci.meth x = some f → findIn K (.ref k) x = some (some (.ref f)) ∧ typeIn K (.ref f) = some (.type "function")
section
variable {g : G} {mg mb : Str → Option Value} {f : Fm} {c : Cx} {s : Shared} {sc : Scope} {n : Nat} {le : LEnv}
theorem isStr_key {e : DictEntry} {x y : Str} {t : Tok} (h : e.key = .str x t) : e.key.isStr y = (x == y) := by rw [h]; rfl
theorem refKey_key {e : DictEntry} {x : Str} {t : Tok} (h : e.key = .str x t) : e.refKey = false := by
 unfold DictEntry.refKey; rw [h]
theorem MEs.noRef : ∀ {fs : List (Str × MV)} {es : List DictEntry}, MEs c fs es → es.any (·.refKey) = false
 | [], _, e => by cases e; rfl
 | _ :: _, _, .mk _ _ e (.mk _ k _) b => by cases e; rw [List.any_cons, refKey_key k, MEs.noRef b]; rfl
def OptB {α β : Type} (R : α → β → Prop) : Option α → Option β → Prop
 | some a, some b => R a b
 | none, none => True
 | _, _ => False
theorem MEs.find (x : Str) : ∀ {fs : List (Str × MV)} {es : List DictEntry}, MEs c fs es → OptB (fun v (e : DictEntry) => MR c v e.val) (fs.lookup x) (es.find? (·.key.isStr x))
 | [], _, e => by cases e; trivial
 | (y, d) :: fs, _, .mk v es e (.mk _ k r) b => by
  cases e
  rw [List.lookup_cons, List.find?_cons, isStr_key k, BEq.comm (a := y)]
  cases x == y with
  | true => exact r
  | false => exact MEs.find x b
theorem MEs.hit {fs : List (Str × MV)} {es : List DictEntry} {x : Str} {v : MV} (r : MEs c fs es) (h : fs.lookup x = some v) : ∃ w, getL x es = some (some w) ∧ MR c v w := by
 have q := r.find x
 rw [h] at q
 unfold getL
 cases he : es.find? (·.key.isStr x) with
 | none => rw [he] at q; exact q.elim
 | some e => rw [he] at q; exact ⟨_, rfl, q⟩
theorem MEs.miss {fs : List (Str × MV)} {es : List DictEntry} {x : Str} (r : MEs c fs es) (h : fs.lookup x = none) : getL x es = some none := by
 have q := r.find x
 rw [h] at q
 unfold getL
 cases he : es.find? (·.key.isStr x) with
 | none => rw [r.noRef]; rfl
 | some e => rw [he] at q; exact q.elim
theorem VEs.toM : ∀ {fs : List (Str × D)} {es : List DictEntry}, VEs c.S c.h c.n fs es → MEs c (fs.map fun p => (p.1, .d p.2)) es
 | [], _, e => e
 | (_, _) :: _, _, .mk e es q k b => .mk e es q k b.toM
theorem handed {v : MV} {w : Value} (r : MR c v w) (h : okField v = true) : handedIn w = true := by
 cases v with
 | d x =>
  cases x with
  | none => cases r; rfl
  | bool => cases r; rfl
  | int => exact r.elim fun _ q => by cases q; rfl
  | str => exact r.elim fun _ q => by cases q.1; rfl
  | typ => cases r; rfl
  | bi => exact Bool.noConfusion h
  | glob => cases r; rfl
  | tup => cases r with | mk a vs k e => cases e; rfl
  | lst => cases r with | mk a vs k e => cases e; rfl
  | inst => cases r with | mk a dx vs k e => cases e; rfl
 | ref => cases r.2; rfl
 | tup => cases r with | mk a vs k e => cases e; rfl
inductive InsV (c : Cx) (k : Nat) (fs : List (Str × MV)) (w : Value) : Prop
 | mk (x dx : Addr) (es : Array DictEntry) (m : Nat) (e : w = .ref x) (g : c.h.get? x = some (insO k dx)) (g2 : c.h.get? dx = some (dicO es m)) (r : MEs c fs es.toList)
theorem inst_at (X : St g c s) {o : MV} {w : Value} (r : MR c o w) {p : Nat × List (Str × MV)} (e : instOf o c.st = some p) : InsV c p.1 p.2 w := by
 cases o with
 | d x =>
  cases x with
  | inst k fs => cases e; cases r with | mk x dx es m e g n g2 n2 r => exact ⟨x, dx, es, m, e, g, g2, r.toM⟩
  | _ => exact nos e
 | ref i =>
  have O := X.at_ i
  dsimp only [instOf] at e
  cases hm : c.st.objs i with
  | inst k fs => rw [hm] at e O; cases e; cases O with | mk es m g g2 q => exact ⟨_, _, es, m, r.2, g, g2, q⟩
  | _ => rw [hm] at e; exact nos e
 | tup => exact nos e
inductive InsM (g : G) (c : Cx) (s : Shared) (k : Nat) (fs : List (Str × MV)) (w : Value) : Prop
 | mk (x dx : Addr) (es : Array DictEntry) (m : Nat) (e : w = .ref x) (I : InstAt s.heap x (insO k dx) k (some (dictOf es.toList m))) (r : MEs c fs es.toList)
theorem inst_m (X : St g c s) {o : MV} {w : Value} (r : MR c o w) {p : Nat × List (Str × MV)} (e : instOf o c.st = some p) : InsM g c s p.1 p.2 w := by
 cases inst_at X r e with | mk x dx es m e g g2 r =>
 exact ⟨x, dx, es, m, e, ⟨X.heap ▸ g, rfl, rfl, by show s.heap.get? dx = _; rw [X.heap, g2]⟩, r⟩
theorem W.attr (H : g.K.In s.heap) (hk : ∀ k ci, g.T.cls k = some ci → CK g.K k ci) (X : St g c s) {o : MV} {w : Value} (r : MR c o w) {attr : Str} {b : Bool} {v : MV} (h : getField g.T o attr c.st = some v) :
  W g f c s (PySem.getAttr w attr b) (.ok v c.st) MR :=
 (bes h).elim fun p h1 => (bes h1.2).elim fun ci h2 => by
  have h3 := h2.2
  unfold fieldOf at h3
  by_cases hd : ci.data attr = true
  ·rw [if_pos hd] at h3
   have h4 := Option.filter_eq_some_iff.mp h3
   cases inst_m X r h1.1 with | mk x dx es m e I r1 =>
   cases e
   have C := hk p.1 ci h2.1
   exact (r1.hit h4.1).elim fun w q => W.of fun Q E k => get_value H I C.ga (findObj_own C.hd (C.data attr hd) rfl (by rw [lookIn_dict]; exact q.1)) (handed q.2 h4.2) (k _ _ (X.same rfl rfl rfl (Nat.le_succ _)) q.2)
  ·rw [if_neg hd] at h3; exact nos h3
theorem method_at (H : g.K.In s.heap) (hk : ∀ k ci, g.T.cls k = some ci → CK g.K k ci) (X : St g c s) {o : MV} {w : Value} (r : MR c o w) {name : Str} {p : Nat × List (Str × MV)} {ci : ClsInfo} {fn : Nat}
  (h1 : instOf o c.st = some p) (h2 : g.T.cls p.1 = some ci) (h3 : ci.meth name = some fn) (hf : p.2.lookup name = none)
  {Q : Value × List Value → Shared → Prop} {E : Value → Shared → Prop} {A : Around} {pl : Sem Bool} (q : Q (.ref fn, [w]) s) : wpAny (model g.prog g.w) A (getMethod w name pl) Q E s := by
 cases inst_m X r h1 with | mk x dx es m e I r1 =>
 cases e
 have C := hk p.1 ci h2
 exact method_fn H I C.ga C.gt (C.meth name fn h3).1 (C.meth name fn h3).2 (by show (lookIn name (dictOf es.toList m)).map _ = _; rw [lookIn_dict, r1.miss hf]; rfl) q
end
section
variable {g : G} {mg mb : Str → Option Value} {f : Fm} {c : Cx} {s : Shared} {sc : Scope} {n : Nat} {le : LEnv}
theorem MEs.put {name : Str} {hsh : Int} {tk : Tok} {mv : MV} {w : Value} (r : MR c mv w) : ∀ {fs : List (Str × MV)} {es : List DictEntry}, MEs c fs es → MEs c (setFields fs name mv) (putL name hsh (.str name tk) w es)
 | [], _, e => by cases e; exact .mk _ _ rfl ⟨tk, rfl, r⟩ rfl
 | (y, d) :: fs, _, .mk e es q (.mk t k z) b => by
  cases q
  show MEs c (if y = name then _ else _) (if e.key.isStr name = true then _ else _)
  rw [isStr_key k]
  by_cases h : y = name
  ·rw [if_pos h, if_pos (beq_iff_eq.mpr h)]
   exact .mk _ _ rfl ⟨t, k, r⟩ b
  ·rw [if_neg h, if_neg (fun z => h (beq_iff_eq.mp z))]
   exact .mk _ _ rfl ⟨t, k, z⟩ (MEs.put r b)
theorem putL_len (name : Str) (hsh : Int) (key w : Value) : ∀ es : List DictEntry, (putL name hsh key w es).length ≤ es.length + 1
 | [] => nlr _
 | e :: r => by
  show (if e.key.isStr name = true then _ else _ : List DictEntry).length ≤ _
  by_cases h : e.key.isStr name = true
  ·rw [if_pos h]; exact Nat.le_succ _
  ·rw [if_neg h]; exact Nat.succ_le_succ (putL_len name hsh key w r)
theorem W.setAttr0 (H : g.K.In s.heap) (hk : ∀ k ci, g.T.cls k = some ci → CK g.K k ci) (X : St g c s) {i : Nat} {k : Nat} {fs : List (Str × MV)} {ci : ClsInfo} {attr : Str} {mv : MV} {w : Value} (hlt : i < c.st.next)
  (hi : c.st.objs i = .inst k fs) (h2 : g.T.cls k = some ci) (h3 : ci.data attr = true) (hz : fs.length < 64) (r : MR c mv w) :
  W g f c s (PySem.setAttr (.ref (c.ρ i).1) attr w) (.ok () ⟨c.st.next, upd c.st.objs i (.inst k (setFields fs attr mv))⟩) (fun _ (_ : Unit) (_ : Unit) => True) := by
 have O := X.at_ i
 rw [hi] at O
 cases O with | mk es m e1 e2 r1 =>
 have C := hk k ci h2
 have hX := X.heap
 have g1 : s.heap.get? (c.ρ i).1 = some (insO k (c.ρ i).2) := hX ▸ e1
 have g2 : s.heap.get? (c.ρ i).2 = some (dicO es m) := hX ▸ e2
 have I : InstAt s.heap (c.ρ i).1 (insO k (c.ρ i).2) k (some (dictOf es.toList m)) := ⟨g1, rfl, rfl, by show s.heap.get? (c.ρ i).2 = _; rw [g2]⟩
 have od : dicO es m = dictOf es.toList m := rfl
 have hl := r1.length fs
 intro _
 refine set_plain H I C.sa ?_
 have ht : takerIn g.K k attr = some none := by unfold takerIn; rw [C.data attr h3]; rfl
 refine osa_open (s := { s with toks := s.toks + 1 }) H I C.po ht fun b => (any_some C.hd).elim fun cd q => ?_
 refine wpAny_bind (wpAny_pure (wpAny_bind (wpAny_bind (wpAny_loadPart g1 (wpAny_bind (looks_clsIn H q.1 _ _ _ { s with toks := s.toks + 1 } (fun _ _ e => e) ?_))))))
 rw [q.2]
 refine wpAny_pure (a := some (c.ρ i).2) (wpAny_bind (wpAny_pure (wpAny_bind ?_)))
 unfold nsSet
 refine wpAny_bind (wpAny_bind (wpAny_askSetting (wpAny_pure (wpAny_bind (wpAny_mkText (wpAny_bind (wpAny_loadPart g2 ?_)))))))
 have nr : (!es.any (·.key.isStr attr) && es.any (·.refKey)) = false := by
  rw [← Array.any_toList (p := fun e : DictEntry => e.refKey), r1.noRef, Bool.and_false]
 dsimp only
 rw [aRefKeyMayBeTheName_at, nr]
 refine wpAny_updatePart g2 ?_
 generalize (if attr.cps.isEmpty = true then 0 else reduceHash ((model g.prog g.w).w.params.strHash attr.cps)) = hsh
 have e3 := putName_dict attr hsh (.str attr (s.toks + 1)) w es.toList m
 generalize hh : s.heap.update (c.ρ i).2 (Obj.putName attr hsh (.str attr (s.toks + 1)) w) = h'
 have g3 : h'.get? (c.ρ i).2 = some (dictOf (putL attr hsh (.str attr (s.toks + 1)) w es.toList) (putN attr es.toList m)) :=
  hh ▸ (Heap.get?_update_self _ g2 (by rw [od, e3]; rfl)).trans (by rw [od, e3])
 have oth : ∀ a, (c.ρ i).2 ≠ a → h'.get? a = c.h.get? a := fun a q => by rw [← hh, Heap.get?_update_other _ _ q, hX]
 have hz2 : (putL attr hsh (.str attr (s.toks + 1)) w es.toList).toArray.size ≤ sizeLine + 1 :=
  nlt (putL_len attr hsh (.str attr (s.toks + 1)) w es.toList) (Nat.succ_le_succ (hl ▸ nlt (nol hz) (by decide)))
 refine wpAny_bind (wpAny_lookBehind (by exact g3) (pastItsLine_dict hz2) (wpAny_pure ?_))
 have T := X.turn (mo' := .inst k (setFields fs attr mv)) (h' := h') (s' := { s with heap := h', toks := s.toks + 1 + 1 }) hi hlt (fun _ => id)
  (fun a o ha hne => (oth a fun q => hne (.inr q.symm)).trans ha)
  (fun a o ha => (Classical.em ((c.ρ i).2 = a)).elim (fun q => ⟨_, q ▸ g3⟩) fun q => ⟨o, (oth a q).trans ha⟩)
  (fun c' hc' A => ⟨_, _, hc' ▸ (oth _ fun q => by rw [← q, e2] at e1; cases e1).trans e1, hc' ▸ g3, (MEs.put r r1).mono A (noP c)⟩) rfl rfl rfl (Nat.le_succ_of_le (Nat.le_succ _))
 exact ⟨(), _, rfl, T.1, T.2, trivial⟩
inductive SetA (T : Tab) (ov : MV) (attr : Str) (v : MV) (st : MSt) : Prop
 | mk (n k : Nat) (fs : List (Str × MV)) (ci : ClsInfo) (e : ov = .ref n) (hi : st.objs n = .inst k fs) (h2 : T.cls k = some ci) (h3 : ci.data attr = true) (hz : fs.length < 64) (q : Mine.setAttr T ov attr v st = .ok () ⟨st.next, upd st.objs n (.inst k (setFields fs attr v))⟩)
theorem setA {T : Tab} {ov : MV} {attr : Str} {v : MV} {st : MSt} (h : Mine.setAttr T ov attr v st ≠ .bad) : SetA T ov attr v st := by
 cases ov with
 | ref n =>
  cases hi : st.objs n with
  | inst k fs =>
   cases h2 : T.cls k with
   | some ci =>
    have e : Mine.setAttr T (.ref n) attr v st = if ci.data attr ∧ fs.length < 64 then .ok () ⟨st.next, upd st.objs n (.inst k (setFields fs attr v))⟩ else .bad := by unfold Mine.setAttr; simp only [hi, h2]
    by_cases q : ci.data attr ∧ fs.length < 64
    ·exact ⟨n, k, fs, ci, rfl, hi, h2, q.1, q.2, e.trans (if_pos q)⟩
    ·exact absurd (e.trans (if_neg q)) h
   | none => exact absurd (by unfold Mine.setAttr; simp only [hi, h2]) h
  | _ => exact absurd (by unfold Mine.setAttr; simp only [hi]) h
 | _ => exact absurd rfl h
theorem W.setAttr (H : g.K.In s.heap) (hk : ∀ k ci, g.T.cls k = some ci → CK g.K k ci) (X : St g c s) {ov mv : MV} {o w : Value} {attr : Str} (ro : MR c ov o) (r : MR c mv w) :
  W g f c s (PySem.setAttr o attr w) (Mine.setAttr g.T ov attr mv c.st) (fun _ (_ : Unit) (_ : Unit) => True) := fun hb => by
 cases setA hb with
 | mk n k fs ci e hi h2 h3 hz q =>
  subst e
  cases ro.2
  exact W.eqv (W.setAttr0 H hk X ro.1 hi h2 h3 hz r) q.symm hb
end
section
variable {g : G} {mg mb : Str → Option Value} {f : Fm} {c : Cx} {s : Shared} {sc : Scope} {n : Nat} {le : LEnv}
theorem starEach_one {env : Env} {e : Expr} {r : List Expr} (h : notStar e = true) : starEach (e :: r) env = (false, eval e env) :: starEach r env := by
 cases e <;> first | rfl | exact Bool.noConfusion h
theorem starEach_plain {env : Env} : ∀ {es : List Expr}, es.all notStar = true → starEach es env = es.map fun e => (false, eval e env)
 | [], _ => rfl
 | e :: r, h => by
  have h := (Bool.and_eq_true _ _).mp h
  rw [starEach_one h.1, starEach_plain h.2]; rfl
theorem backTo_plain {env : Env} {pos : Pos} {es : List Expr} (h : es.all notStar = true) : backTo pos (starEach es env) = es.map fun e => (false, eval e env) := by
 rw [starEach_plain h]
 exact List.map_map
theorem plain_any {env : Env} : ∀ {es : List Expr}, (es.map fun e => (false, eval e env)).any (·.1) = false
 | [] => rfl
 | _ :: r => plain_any (es := r)
theorem plain_star {es : List Expr} (h : plainArgs es = true) : es.all notStar = true := ((Bool.and_eq_true _ _).mp h).1
theorem plain_len {es : List Expr} (h : plainArgs es = true) : es.length < 29 := of_decide_eq_true ((Bool.and_eq_true _ _).mp h).2
theorem evalArgs_all {M : Model} {A : Around} {E : Value → Shared → Prop} {fv : Value} {trees : List (Bool × Sem Value)} (hp : trees.any (·.1) = false) {Q : Args → Shared → Prop}
  (h : wpAny M A (spliced trees) (fun vs s' => Q ⟨vs, []⟩ s') E s) : wpAny M A (evalArgs fv true trees []) Q E s := by
 cases trees with
 | nil =>
  unfold evalArgs
  show wpAny M A (spliced [] >>= _) Q E s
  refine wpAny_bind (wpAny_mono h (fun vs s' h' => wpAny_bind (wpAny_pure ?_)) fun _ _ x => x)
  exact wpAny_holding (wpAny_bind (wpAny_pure (wpAny_bind (wpAny_pure (wpAny_pure h')))))
 | cons t r =>
  obtain ⟨b, x⟩ := t
  rw [List.any_cons, Bool.or_eq_false_iff] at hp
  cases hp.1
  exact evalArgs_plain h
def KeepAt (M : Model) (h : Heap) (fv : Value) : Prop := ∃ kp, (kp = Keeper.frame ∨ kp = Keeper.machine ∨ kp = Keeper.boundFrame) ∧ Looks M h (keeperOf fv) kp
theorem W.callWith {β : Type} {R : Cx → β → Value → Prop} {pos : Pos} {fv : Value} {first : List Value} {trees : List (Bool × Sem Value)} {m : M (List MV)} {k : List MV → M β} (hp : trees.any (·.1) = false)
  (h : W g f c s (spliced trees) (m c.st) MRs)
  (h2 : ∀ a v c1 s1, St g c1 s1 → Adv c c1 → MRs c1 a v → k a c1.st ≠ .bad → KeepAt (model g.prog g.w) s1.heap fv ∧ W g f c1 s1 (call fv (first ++ v) []) (k a c1.st) R) :
  W g f c s (PySem.callWith pos fv first trees []) (M.bind m k c.st) R := fun hb => by
 refine callWith_of (P := fun h => KeepAt (model g.prog g.w) h fv) (by rw [hp]; rfl) (fun _ q => q) (evalArgs_all hp (wpAny_mono (h fun q => hb (bind_bad q)) (fun v s1 p => ?_) fun e s1 x => ⟨bind_exc x.1, x.2⟩))
 cases p with | mk a c1 e X A r =>
 rw [bind_ok e] at hb ⊢
 have h3 := h2 a v c1 s1 X A r hb
 exact ⟨h3.1, h3.2.at_ (noP c) A hb⟩
theorem keep_builtin {id : String} {h : Heap} {M : Model} : KeepAt M h (.builtin id) := ⟨.machine, .inr (.inl rfl), .now⟩
theorem keep_type {id : String} {h : Heap} {M : Model} : KeepAt M h (.type id) := ⟨.machine, .inr (.inl rfl), .now⟩
theorem methodCallPos_same {o : Expr} {env : Env} {apos pos : Pos} (h : apos.endLine = pos.line) {b : Bool} : methodCallPos b o env apos pos = pure pos := by
 unfold methodCallPos
 rw [if_pos (by simp [h])]
theorem plain_all {env : Env} : ∀ {es : List Expr}, (es.map fun e => ((false, eval e env) : Bool × Sem Value)).all (fun x => !x.1) = true
 | [] => rfl
 | _ :: r => plain_all (es := r)
theorem form_few {env : Env} {es : List Expr} (h : es.length < 29) : methodCallForm (es.length + 0) (es.map fun e => (false, eval e env)) [] = true := by
 unfold methodCallForm
 rw [plain_all]
 simp; omega
theorem base_plain {o : Expr} {name : Str} {env : Env} {t : Sem Value} (h : plainBase o = true) : attributeBase o name env t = t := by
 cases o with
 | Call f a k p =>
  cases f with
  | Name i q =>
   cases a with
   | nil => cases k with
    | nil => exact Bool.noConfusion h
    | cons => rfl
   | cons => rfl
  | _ => rfl
 | _ => rfl
end
end
section
open PySem PySem.W PySem.Calls PyProof.Rows PySem.NumText
theorem int2_typeCall (a b : Value) : checkTypeCall "int" ⟨[a, b], []⟩ = pure () := by kernel_rfl
theorem int2_newCall (a b : Value) : checkBuiltinCall "int.__new__" ⟨[.type "int", a, b], []⟩ = pure () := by kernel_rfl
set_option maxHeartbeats 4000000 in
theorem gives_text2 {x : PySem.Str} {u u' : Tok} {n : Int} (hl : x.length ≤ 640) (hn : PySem.intText? x = some n) : Gives (Builtin.«int.__new__» ⟨[.type "int", .str x u, .int 10 u'], []⟩) (.int n) :=
 .of_wp fun M A E s Q h => by
  obtain ⟨hp, g, d, tk, os⟩ := s
  have f1 := F.conv_sub_int
  have f2 := F.madeHere_int
  have f3 := KIN.str_int
  have f4 := KIN.str_idx
  have f5 := KIN.str_trunc
  have f6 : typeOf (.str x u) = pure (.type "str") := rfl
  have hs : (numSeenOf x).length ≤ 640 := nlt (seen_length x) hl
  have hr : (int_private% "readNumeral") 0 10 (numSeenOf x) = (int_private% "Numeral.value") n ∧ ((numSeenOf x).length == (numTextOf x).length) = true := by
   rcases read0 x hs with ⟨m, h1, h2, h3⟩ | ⟨h1, _⟩
   ·rw [hn] at h1
    injection h1 with h1
    subst h1
    exact ⟨h3, h2⟩
   ·rw [hn] at h1
    cases h1
  have hk := KIN.Hid.mk (And.intro hs hr)
  clear hs hr hl hn
  repeat (any_goals (first
   | assumption
   | ((with_reducible show wpAny _ _ ((int_private% "intFromText") _ _ _) _ _ _); refine KIN.wp_text hk.out.1 hk.out.2.1 hk.out.2.2 ?_)
   | wp_step))
  all_goals first | exact ⟨_, rfl, h⟩ | skip
theorem call_int10 {prog : Program} {w : World} {A : Around} {E : Value → Shared → Prop} {s : Shared} {Q : Value → Shared → Prop} {x : PySem.Str} {t u : Tok} {n : Int} (hn : PySem.intText? x = some n) (hl : x.length ≤ 640)
  (h : Q (.int n s.toks) { s with toks := s.toks + 1 }) : wpAny (model prog w) A (call (.type "int") [.str x t, .int 10 u]) Q E s :=
 callType_new F.called_int F.newNe_int (int2_typeCall _ _) (int2_newCall _ _) (fun obj => F.args_object_init_3 obj _ _) F.entry_int_new (gives_text2 hl hn).meets (show (Made.int n).post _ s from ⟨rfl, h⟩)
section
variable {g : G} {mg mb : Str → Option Value} {f : Fm} {c : Cx} {s : Shared} {sc : Scope} {n : Nat} {le : LEnv}
theorem MR.mkTup {a : Addr} {l : List MV} {vs : Array Value} {k : Nat} (e : c.h.get? a = some (seqO "tuple" vs k)) (no : ¬ c.S a) (r : MRs c l vs.toList) : MR c (Mine.mkTup l) (.ref a) := by
 unfold Mine.mkTup
 cases h : allD l with
 | some ds => exact ⟨a, vs, k, rfl, e, no, allD_are h r⟩
 | none => exact ⟨a, vs, k, rfl, e, no, r⟩
theorem W.tup (X : St g c s) {t : Sem Value} {l : List MV} {vs : List Value} (r : MRs c l vs)
  (h : ∀ (Q : Value → Shared → Prop) (E : Value → Shared → Prop), (∀ (h' : Heap) (tk : Nat), (∀ a o, s.heap.get? a = some o → h'.get? a = some o) → Q (.ref h'.objs.size) { s with heap := h'.push { cls := .type "tuple", data := .seq vs.toArray }, toks := tk }) → wpAny (model g.prog g.w) f.A t Q E s) :
  W g f c s t (.ok (Mine.mkTup l) c.st) MR := fun _ => any_toks (h _ _ fun h' tk k le => by
 rw [X.heap] at k
 have Y := X.grow (h' := h'.push (seqO "tuple" vs.toArray 0)) (s' := { s with heap := h'.push (seqO "tuple" vs.toArray 0), toks := tk }) (fun a o e => Heap.get?_push_of_some _ (k a o e)) rfl rfl rfl le
 have no : ¬ c.S h'.objs.size := fun q => (X.lt q).elim fun o e => absurd (Heap.lt_size (k _ o e)) (Nat.lt_irrefl _)
 exact ⟨_, c.he (h'.push (seqO "tuple" vs.toArray 0)), rfl, Y.1, Y.2, MR.mkTup (c := c.he _) (k := 0) (Heap.get?_push_size _ rfl) no (r.mono Y.2 (noP c))⟩)
theorem W.grown (X : St g c s) {t : Sem Value} {r : D} (h : ∀ (Q : Value → Shared → Prop) (E : Value → Shared → Prop), (∀ (h' : Heap) (tk : Nat) (v : Value), (∀ a o, s.heap.get? a = some o → h'.get? a = some o) → (∀ S n, VR S h' n r v) → Q v { s with heap := h', toks := tk }) → wpAny (model g.prog g.w) f.A t Q E s) :
  W g f c s t (.ok (.d r) c.st) MR := fun _ => any_toks (h _ _ fun h' tk v k hv le => by
 have Y := X.grow (h' := h') (fun a o e => k a o (by rw [X.heap]; exact e)) (s' := { s with heap := h', toks := tk }) rfl rfl rfl le
 exact ⟨_, c.he h', rfl, Y.1, Y.2, hv _ _⟩)
theorem toString_num (i : Int) (h : 0 ≤ i) : (toString i : PySem.Str) = ⟨(strOfNat i.toNat).toArray⟩ := by
 obtain ⟨m, rfl⟩ := Int.eq_ofNat_of_zero_le h
 have := KIN.signs_num m
 have e : (⟨(so (toString ((m : Nat) : Int))).cps.toList.toArray⟩ : PySem.Str) = so (toString ((m : Nat) : Int)) := by simp
 show so (toString ((m : Nat) : Int)) = _
 rw [← e, this]
 rfl
theorem numOf_eq (l : List Nat) : numOf l = digitsVal l := rfl
theorem on1_W {β : Type} {R : Cx → β → Value → Prop} {F : MV → M β} {tm : List Value → Sem Value} {args : List MV} {vals : List Value} (r : MRs c args vals) (h : ∀ a va, MR c a va → W g f c s (tm [va]) (F a c.st) R) : W g f c s (tm vals) (on1 F args c.st) R := by
 cases args with
 | nil => exact .bad
 | cons a y =>
  cases y with
  | nil => cases r with | mk v l e x y => cases e; cases y; exact h _ _ x
  | cons _ _ => exact .bad
theorem on2_W {F : MV → MV → M MV} {tm : List Value → Sem Value} {args : List MV} {vals : List Value} (r : MRs c args vals) (h : ∀ a va b vb, MR c a va → MR c b vb → W g f c s (tm [va, vb]) (F a b c.st) MR) : W g f c s (tm vals) (on2 F args c.st) MR := by
 cases args with
 | nil => exact .bad
 | cons a y =>
  cases y with
  | nil => exact .bad
  | cons b z =>
   cases z with
   | nil => cases r with | mk v l e x y => cases y with | mk v' l' e' x' y' => cases e; cases e'; cases y'; exact h _ _ _ _ x x'
   | cons _ _ => exact .bad
theorem bool?_at {a : MV} {b : Bool} {va : Value} (e : bool? a = some b) (r : MR c a va) : va = .bool b := by
 cases a with
 | d x =>
  cases x with
  | bool => cases e; exact r
  | _ => exact nos e
 | _ => exact nos e
theorem W.tyInt1 (X : St g c s) {a : MV} {va : Value} (r : MR c a va) : W g f c s (call (.type "int") [va] []) (tyInt1 a c.st) MR := by
 unfold Mine.tyInt1
 cases e : a.int? with
 | some i => exact (r.int e).elim fun t q => by cases q; exact W.of fun Q E k => call_int_int (k _ _ X ⟨t, rfl⟩)
 | none =>
  cases e2 : bool? a with
  | none => exact .bad
  | some b => cases bool?_at e2 r; exact W.newInt X fun Q E k => call_int_bool (k _ _)
theorem W.tyInt2 (X : St g c s) {a b : MV} {va vb : Value} (ra : MR c a va) (rb : MR c b vb) : W g f c s (call (.type "int") [va, vb] []) (tyInt2 a b c.st) MR := by
 unfold Mine.tyInt2
 cases ea : a.str? with
 | none => exact .bad
 | some l =>
  cases eb : b.int? with
  | none => exact .bad
  | some i =>
   refine (ra.str ea).elim fun t q => (rb.int eb).elim fun u q' => ?_
   cases q.1; cases q'
   refine W.ite fun hc => ?_
   cases hc.1
   have h1 := (Bool.and_eq_true _ _).mp hc.2
   have h2 := (Bool.and_eq_true _ _).mp h1.1
   have h3 : l.length ≤ 20 := of_decide_eq_true h1.2
   refine W.newInt X fun Q E k => call_int10 (n := (numOf l : Int)) ?_ (nlt h3 (by decide)) (k _ _)
   rw [intText_digits (x := ⟨l.toArray⟩) (fun c hc' => by simpa using List.all_eq_true.mp h2.2 c hc') (by cases l with | nil => exact Bool.noConfusion h2.1 | cons => exact List.cons_ne_nil _ _) (nlt h3 (by decide))]
   rfl
theorem log_small {i : Int} (h0 : 0 ≤ i) (h : i < 10 ^ 18) : i.natAbs.log2 < 1920 :=
 nll (by
  by_cases hz : i.natAbs = 0
  ·rw [hz]; exact (by decide : Nat.log2 0 ≤ 60)
  ·exact nol ((Nat.log2_lt hz).mpr (by omega))) (by decide : 60 < 1920)
theorem W.tyStr (X : St g c s) {a : MV} {va : Value} (r : MR c a va) : W g f c s (call (.type "str") [va] []) (tyStr a c.st) MR := by
 unfold Mine.tyStr
 cases e : a.int? with
 | none => exact .bad
 | some i =>
  refine (r.int e).elim fun t q => ?_
  cases q
  exact W.ite fun hc => W.newStr X fun Q E k => P.str_of_int (log_small hc.1 hc.2) (by rw [toString_num i hc.1]; exact k _ _ (.inr ⟨rfl, nls _⟩))
theorem W.tyTup (X : St g c s) {a : MV} {va : Value} (r : MR c a va) : W g f c s (call (.type "tuple") [va] []) (tyTup a c.st) MR := by
 unfold Mine.tyTup
 cases hl : lOf a c.st with
 | none => exact .bad
 | some l =>
  by_cases hc : l.length ≤ cap
  ·dsimp only
   rw [if_pos hc]
   cases lOf_at X r hl with | mk ad vs k e i1 r1 =>
   cases e
   exact W.tup X (l := l) (vs := vs.toList) r1 fun Q E q => call_tuple_list i1.isList (fun h' hk => q h' s.toks hk) ((show l.length = vs.size from r1.length) ▸ cap_line hc)
  ·dsimp only; rw [if_neg hc]; exact .bad
theorem one?_eq {α : Type} {l : List α} {a : α} (e : one? l = some a) : l = [a] := by
 cases l with
 | nil => exact nos e
 | cons x r => cases r with
  | nil => cases e; rfl
  | cons _ _ => exact nos e
theorem W.tyInt (X : St g c s) {args : List MV} {vals : List Value} (r : MRs c args vals) : W g f c s (call (.type "int") vals []) (tyInt args c.st) MR := by
 unfold Mine.tyInt
 cases e : one? args with
 | none => exact on2_W (tm := fun v => call (.type "int") v []) r fun a va b vb => W.tyInt2 X
 | some a =>
  cases one?_eq e
  cases r with | mk v l e x y => cases e; cases y; exact W.tyInt1 X x
theorem W.callTyp (X : St g c s) (nm : String) {args : List MV} {vals : List Value} (r : MRs c args vals) : W g f c s (call (.type nm) vals []) (Mine.callTyp nm args c.st) MR := by
 unfold Mine.callTyp
 by_cases h1 : nm = "int"
 ·subst h1; rw [if_pos rfl]; exact W.tyInt X r
 rw [if_neg h1]
 by_cases h2 : nm = "str"
 ·subst h2; rw [if_pos rfl]; exact on1_W (tm := fun v => call (.type "str") v []) r fun a va => W.tyStr X
 rw [if_neg h2]
 by_cases h3 : nm = "tuple"
 ·subst h3; rw [if_pos rfl]; exact on1_W (tm := fun v => call (.type "tuple") v []) r fun a va => W.tyTup X
 rw [if_neg h3]
 exact .bad
structure KN (K : Frag) (D C : Addr) : Prop where
 e : kin_not K D C = true
 hg : plainGet K D "__class__" = true
 hdct : hasDictIn K D = true
 ha : findIn K (.ref D) "__class__" = some (some (.builtin "object.__class__"))
 hn : specialIn K (.builtin "object.__class__") "__get__" = some (some (.builtin "getset_descriptor.__get__"))
 htk : takesIn K (.builtin "object.__class__") = some true
 hm : mroIn K D (.type "object") = some true
structure TK (g : G) : Prop where
 cls : ∀ k ci, g.T.cls k = some ci → CK g.K k ci
 subT : ∀ k a, g.T.sub k a = some true → isIn g.K (.ref k) a = true
 subF : ∀ k a, g.T.sub k a = some false → KN g.K k a
 methF : ∀ k ci x fn, g.T.cls k = some ci → ci.meth x = some fn → (g.T.fn fn).isSome = true
theorem W.biLen (X : St g c s) {a : MV} {va : Value} (r : MR c a va) : W g f c s (call (.builtin "len") [va] []) (biLen a c.st) MR := by
 unfold Mine.biLen
 cases e : a.str? with
 | some l =>
  refine (r.str e).elim fun t q => ?_
  cases q.1
  exact W.ite fun hc => W.newInt X fun Q E k => P.len_str (by rw [str_len]; have : l.length ≤ 2 ^ 20 := hc; omega) (k _ _)
 | none =>
  dsimp only
  cases hl : lOf a c.st with
  | none => exact .bad
  | some l =>
   by_cases hc : l.length ≤ cap
   ·dsimp only
    rw [if_pos hc]
    cases lOf_at X r hl with | mk ad vs k e i1 r1 =>
    cases e
    have e : l.length = vs.size := r1.length
    rw [e] at hc ⊢
    exact W.newInt X fun Q E q => call_len_list i1.isList (by have : vs.size ≤ 2 ^ 20 := hc; omega) (q _ _)
   ·dsimp only; rw [if_neg hc]; exact .bad
theorem W.biOrd (X : St g c s) {a : MV} {va : Value} (r : MR c a va) : W g f c s (call (.builtin "ord") [va] []) (biOrd a c.st) MR := by
 unfold Mine.biOrd
 cases e : a.str?.bind one? with
 | none => exact .bad
 | some k =>
  refine (bes e).elim fun l h => ?_
  cases one?_eq h.2
  refine (r.str h.1).elim fun t q => ?_
  cases q.1
  exact W.newInt X fun Q E k => P.ord_of_char (k _ _)
theorem W.biMax (X : St g c s) (hh : f.A.handled = none) {x y : MV} {va vb : Value} (ra : MR c x va) (rb : MR c y vb) : W g f c s (call (.builtin "max") [va, vb] []) (biMax x y c.st) MR := by
 unfold Mine.biMax
 cases ea : x.int? with
 | none => exact .bad
 | some a =>
  cases eb : y.int? with
  | none => exact .bad
  | some b =>
   refine (ra.int ea).elim fun t q => (rb.int eb).elim fun u q' => ?_
   cases q; cases q'
   refine W.grown X fun Q E k => max_two_ints hh fun h' tk hk => k h' tk _ hk fun S N => ?_
   by_cases q : a < b
   ·rw [if_pos q, if_pos q]; exact ⟨_, rfl⟩
   ·rw [if_neg q, if_neg q]; exact ⟨_, rfl⟩
inductive IsI (T : Tab) (v cl : MV) (st : MSt) (b : Bool) : Prop
 | mk (a : Nat) (p : Nat × List (Str × MV)) (e : cl = .d (.glob a)) (h : instOf v st = some p) (h2 : T.sub p.1 a = some b)
theorem isInst_eq {T : Tab} {v cl : MV} {st : MSt} {b : Bool} (e : isInst T v cl st = some b) : IsI T v cl st b := by
 cases cl with
 | d y =>
  cases y with
  | glob a => exact (bes e).elim fun k h => (mes h.1).elim fun p q => ⟨a, p, rfl, q.1, q.2.symm ▸ h.2⟩
  | _ => exact nos e
 | _ => exact nos e
theorem W.biInst (H : g.K.In s.heap) (hk : TK g) (X : St g c s) {x y : MV} {va vb : Value} (ra : MR c x va) (rb : MR c y vb) : W g f c s (call (.builtin "isinstance") [va, vb] []) (biInst g.T x y c.st) MR := by
 unfold Mine.biInst
 cases hb : isInst g.T x y c.st with
 | none => exact .bad
 | some b =>
  cases isInst_eq hb with | mk a p e h1 h2 =>
  subst e
  cases (rb : vb = .ref a)
  cases inst_m X ra h1 with | mk ad dx es m e I r1 =>
  cases e
  cases b with
  | true => exact W.bool X fun Q E q => isi_call H (fun M => I.type) (hk.subT p.1 a h2) (by simp) q
  | false =>
   have N := hk.subF p.1 a h2
   exact W.toks X fun Q E q => kin_callC H I N.e N.hg N.hdct N.ha N.hn N.htk N.hm (q _ _ rfl)
theorem W.callBi (H : g.K.In s.heap) (hk : TK g) (X : St g c s) (hh : f.A.handled = none) (nm : String) {args : List MV} {vals : List Value} (r : MRs c args vals) : W g f c s (call (.builtin nm) vals []) (Mine.callBi g.T nm args c.st) MR := by
 unfold Mine.callBi
 by_cases h1 : nm = "len"
 ·subst h1; rw [if_pos rfl]; exact on1_W (tm := fun v => call (.builtin "len") v []) r fun a va => W.biLen X
 rw [if_neg h1]
 by_cases h2 : nm = "ord"
 ·subst h2; rw [if_pos rfl]; exact on1_W (tm := fun v => call (.builtin "ord") v []) r fun a va => W.biOrd X
 rw [if_neg h2]
 by_cases h3 : nm = "max"
 ·subst h3; rw [if_pos rfl]; exact on2_W (tm := fun v => call (.builtin "max") v []) r fun a va b vb => W.biMax X hh
 rw [if_neg h3]
 by_cases h4 : nm = "isinstance"
 ·subst h4; rw [if_pos rfl]; exact on2_W (tm := fun v => call (.builtin "isinstance") v []) r fun a va b vb => W.biInst H hk X
 rw [if_neg h4]
 exact .bad
end
end
section
open PySem PySem.W PySem.Calls PyProof.Rows PySem.Builtin PySem.Builtin.Str
theorem ascii_all {l : List Nat} (h : ascii l = true) : ∀ c ∈ (⟨l.toArray⟩ : PySem.Str).cps.toList, c < 128 := fun c hc => of_decide_eq_true (List.all_eq_true.mp h c hc)
theorem upperA_eq {l : List Nat} (h : ascii l = true) : Txt.upper ⟨l.toArray⟩ = ⟨(upperA l).toArray⟩ := by
 rw [upper_ascii (ascii_all h)]
 simp [upperA, up1]
theorem lowerA_eq {l : List Nat} (h : ascii l = true) : Txt.lower ⟨l.toArray⟩ = ⟨(lowerA l).toArray⟩ := by
 rw [lower_ascii (ascii_all h)]
 simp [lowerA, lo1]
theorem repl_dbl (q : Nat) (l : List Nat) : repl1 q [q, q] l = StrLaws.dbl q l := by
 induction l with
 | nil => rfl
 | cons k r ih =>
  unfold repl1 at ih ⊢
  rw [List.flatMap_cons, ih, StrLaws.dbl]
  by_cases h : k = q
  ·rw [if_pos h, if_pos h, h]; rfl
  ·rw [if_neg h, if_neg h]; rfl
theorem strip_same {p : Nat → Bool} {a b : Bool} {x : PySem.Str} (h : stripSame p a b x = true) : PySem.stripped p a b x = x := by
 have h := (Bool.and_eq_true _ _).mp h
 unfold PySem.stripped
 rw [beq_iff_eq.mp h.2, beq_iff_eq.mp h.1, strSub_whole]
theorem join_eq (sep : List Nat) : ∀ ws : List (List Nat), Str.join ⟨sep.toArray⟩ (ws.map fun w => (⟨w.toArray⟩ : PySem.Str)) = ⟨(joinL sep ws).toArray⟩
 | [] => rfl
 | [w] => rfl
 | w :: v :: r => by
  have ih := join_eq sep (v :: r)
  show (⟨w.toArray⟩ : PySem.Str) ++ ⟨sep.toArray⟩ ++ Str.join ⟨sep.toArray⟩ ((v :: r).map _) = _
  rw [ih, str_app, str_app]
  rfl
noncomputable def smId : SM → String
 | .lower => "str.lower" | .upper => "str.upper" | .isascii => "str.isascii" | .find => "str.find" | .replace => "str.replace"
 | .split => "str.split" | .join => "str.join" | .rstrip => "str.rstrip" | .lstrip => "str.lstrip"
section
variable {g : G} {mg mb : Str → Option Value} {f : Fm} {c : Cx} {s : Shared} {sc : Scope} {n : Nat} {le : LEnv}
theorem sm_one {nm : Str} {id : String} (slot : Slot "str" nm id) (ty : typeOf (.builtin id) = pure (.type "method_descriptor")) {x : Str} {t : Tok} {M : Model} {A : Around} {E : Value → Shared → Prop} {Q : Value × List Value → Shared → Prop} {pl : Sem Bool}
  (q : Q (.builtin id, [.str x t]) s) : wpAny M A (getMethod (.str x t) nm pl) Q E s := getMethod_builtin (typeIs_str _ _ _) F.plainAttrs_str slot ty (fun _ e => nomatch e) q
theorem sm_method {name : Str} {m : SM} (h : smOf name = some m) {x : Str} {t : Tok} {M : Model} {A : Around} {E : Value → Shared → Prop} {Q : Value × List Value → Shared → Prop} {pl : Sem Bool}
  (q : Q (.builtin (smId m), [.str x t]) s) : wpAny M A (getMethod (.str x t) name pl) Q E s := by
 have e : (name == smName m) = true := List.find?_some (p := fun m => name == smName m) h
 rw [beq_iff_eq.mp e]
 cases m with
 | lower => exact sm_one F.slot_str_lower F.type_str_lower q
 | upper => exact sm_one F.slot_str_upper F.type_str_upper q
 | isascii => exact sm_one F.slot_str_isascii F.type_str_isascii q
 | find => exact sm_one F.slot_str_find F.type_str_find q
 | replace => exact sm_one F.slot_str_replace F.type_str_replace q
 | split => exact sm_one F.slot_str_split F.type_str_split q
 | join => exact sm_one F.slot_str_join F.type_str_join q
 | rstrip => exact sm_one F.slot_str_rstrip F.type_str_rstrip q
 | lstrip => exact sm_one F.slot_str_lstrip F.type_str_lstrip q
inductive StrsR (n : List Nat → Nat → Prop) (ws : List (List Nat)) (vs : List Value) : Prop
 | mk (z : List (Str × Tok)) (e : vs = strValues z) (h : z.map (·.1) = ws.map (fun w => (⟨w.toArray⟩ : Str))) (r : ∀ p ∈ z, n p.1.cps.toList p.2)
theorem strsR {n : List Nat → Nat → Prop} : ∀ {ws : List (List Nat)} {vs : List Value}, All2 (StrR n) ws vs → StrsR n ws vs
 | [], _, e => ⟨[], e, rfl, fun _ h => nomatch h⟩
 | w :: ws, _, .mk v vs e a b => by
  cases strsR b with | mk z e2 h r =>
  refine a.elim fun t q => ⟨(⟨w.toArray⟩, t) :: z, by rw [e, q.1, e2]; rfl, congrArg (_ :: ·) h, fun p hp => ?_⟩
  cases hp with
  | head => exact q.2
  | tail _ hp => exact r p hp
theorem strsOf_eq : ∀ {l : List MV} {ws : List (List Nat)}, strsOf l = some ws → l = ws.map fun w => .d (.str w)
 | [], _, e => by cases e; rfl
 | v :: r, ws, e => by
  cases v with
  | d x =>
   cases x with
   | str y => exact (mes e).elim fun zs q => by cases q.2; exact congrArg _ (strsOf_eq q.1)
   | _ => exact nos e
  | _ => exact nos e
theorem strsOf_are {l : List MV} {ws : List (List Nat)} {vs : List Value} (e : strsOf l = some ws) (r : MRs c l vs) : StrsR c.n ws vs := by
 cases strsOf_eq e
 have := r.all
 rw [All2.map] at this
 exact strsR this
theorem fits {k : Nat} (h : k ≤ cap) : tooLong k = false := by
 unfold tooLong
 exact decide_eq_false (Nat.not_lt.mpr (cap_line h))
theorem W.someStr (X : St g c s) {t : Sem Value} {l : List Nat} (hl : l.length ≤ cap) (h : ∀ (Q : Value → Shared → Prop) (E : Value → Shared → Prop), (∀ tk tk', NewTok c s l tk tk' → Q (.str ⟨l.toArray⟩ tk) { s with toks := tk' }) → wpAny (model g.prog g.w) f.A t Q E s) :
  W g f c s t (mkStr l c.st) MR := by
 unfold mkStr
 rw [if_pos hl]
 exact W.newStr X h
theorem mkStr_big {l : List Nat} (h : ¬ l.length ≤ cap) (s : MSt) : mkStr l s = .bad := by unfold mkStr; rw [if_neg h]
theorem on0_W {m : M MV} {tm : List Value → Sem Value} {args : List MV} {vals : List Value} (r : MRs c args vals) (h : W g f c s (tm []) (m c.st) MR) : W g f c s (tm vals) (on0 m args c.st) MR := by
 cases args with
 | nil => cases r; exact h
 | cons _ _ => exact .bad
theorem big_W {tm : Sem Value} {r : List Nat} (h : r.length ≤ cap → W g f c s tm (mkStr r c.st) MR) : W g f c s tm (mkStr r c.st) MR := by
 by_cases hl : r.length ≤ cap
 ·exact h hl
 ·exact .bad' (mkStr_big hl _)
theorem ifA_W {tm : Sem Value} {l r : List Nat} (h : ascii l = true → r.length ≤ cap → W g f c s tm (mkStr r c.st) MR) : W g f c s tm (ifA l (mkStr r) c.st) MR :=
 W.ite fun ha => big_W (h ha)
theorem W.smLower (X : St g c s) {l : List Nat} {t : Tok} : W g f c s (call (.builtin "str.lower") [.str ⟨l.toArray⟩ t] []) (ifA l (mkStr (lowerA l)) c.st) MR :=
 ifA_W fun ha hl => W.someStr X hl fun Q E k => SC.lower (by rw [lowerA_eq ha]; exact fits hl) (by rw [lowerA_eq ha]; exact k _ _ (.inr ⟨rfl, nls _⟩))
theorem W.smUpper (X : St g c s) {l : List Nat} {t : Tok} : W g f c s (call (.builtin "str.upper") [.str ⟨l.toArray⟩ t] []) (ifA l (mkStr (upperA l)) c.st) MR :=
 ifA_W fun ha hl => W.someStr X hl fun Q E k => SC.upper (by rw [upperA_eq ha]; exact fits hl) (by rw [upperA_eq ha]; exact k _ _ (.inr ⟨rfl, nls _⟩))
theorem W.smIsascii (X : St g c s) {l : List Nat} {t : Tok} : W g f c s (call (.builtin "str.isascii") [.str ⟨l.toArray⟩ t] []) (M.pure (.d (.bool (ascii l))) c.st) MR := by
 refine W.bool X fun Q E k => SC.isascii ?_
 have : Txt.isascii (⟨l.toArray⟩ : Str) = ascii l := by unfold Txt.isascii ascii; simp
 rw [this]; exact k
theorem W.smFind (X : St g c s) {l : List Nat} {t : Tok} {a b : MV} {va vb : Value} (ra : MR c a va) (rb : MR c b vb) : W g f c s (call (.builtin "str.find") [.str ⟨l.toArray⟩ t, va, vb] []) (smFind l a b c.st) MR := by
 unfold Mine.smFind
 cases ea : a.str? with
 | none => exact .bad
 | some p =>
  cases eb : b.int? with
  | none => exact .bad
  | some i =>
   refine (ra.str ea).elim fun ta q => (rb.int eb).elim fun tb q' => ?_
   cases q.1; cases q'
   exact W.newInt X fun Q E k => call_meets F.slot_str_find (typeIs_str _ _ _) F.entry_str_find (F.args_str_find_3 _ _ _) (gives_str_find_from _ _ _ _ _ _).meets (k s.toks (s.toks + 1))
theorem W.smRepl (X : St g c s) {l : List Nat} {t : Tok} (t0 : c.n l t) {x y : MV} {vx vy : Value} (rx : MR c x vx) (ry : MR c y vy) : W g f c s (call (.builtin "str.replace") [.str ⟨l.toArray⟩ t, vx, vy] []) (smRepl l x y c.st) MR := by
 unfold Mine.smRepl
 cases ex : x.str?.bind one? with
 | none => exact .bad
 | some b =>
  cases ey : y.str? with
  | none => exact .bad
  | some r =>
   refine (bes ex).elim fun p hx => ?_
   cases one?_eq hx.2
   refine (rx.str hx.1).elim fun u q => (ry.str ey).elim fun v q' => ?_
   have x0 := q.2
   have y0 := q'.2
   cases q.1; cases q'.1
   dsimp only
   by_cases h : r = [b, b] ∧ l.length ≤ cap
   ·rw [if_pos h]
    have hl := h.2
    cases h.1
    refine big_W fun hz => ?_
    have huv : u ≠ v := fun e => by subst e; have := X.same_ _ _ _ x0 y0; simp at this
    have hu := (X.toks _ _ x0).1
    have hv := (X.toks _ _ y0).1
    have hocc := StrLaws.occ_length_le (⟨l.toArray⟩ : Str) ⟨#[b]⟩ 0 (⟨l.toArray⟩ : Str).length ((⟨l.toArray⟩ : Str).length + 1)
    have e0 : Txt.replace (⟨l.toArray⟩ : Str) ⟨#[b]⟩ ⟨#[b, b]⟩ = ⟨(repl1 b [b, b] l).toArray⟩ := by rw [replace_dbl _ _ _ b rfl rfl, repl_dbl]
    refine W.someStr X hz fun Q E k => call_meets F.slot_str_replace (typeIs_str _ _ _) F.entry_str_replace (F.args_str_replace_3 _ _ _) (gives_str_replace _ _ _ _ _ _ fun _ => ⟨?_, ?_, ?_, ?_⟩).meets ?_
    ·simp only [Bool.or_eq_false_iff, beq_eq_false_iff_ne]; exact ⟨Nat.pos_iff_ne_zero.mp hu, Nat.pos_iff_ne_zero.mp hv⟩
    ·simpa using huv
    ·rw [beq_eq_false_iff_ne]; intro q; injection q with q; simp at q
    ·refine decide_eq_false (Nat.not_lt.mpr ?_)
     have : (⟨[b, b].toArray⟩ : Str).length = 2 := rfl
     rw [this, sizeLine_eq]
     have hl' : (⟨l.toArray⟩ : Str).length ≤ 2 ^ 20 := hl
     omega
    ·unfold Txt.replace at e0
     refine post_vos (fun h => ?_) (fun h => ?_) (fun h => ?_)
     ·rw [if_neg h] at e0; rw [show ([b].toArray) = #[b] from rfl, show ([b, b].toArray) = #[b, b] from rfl, e0]; exact cap_line hz
     ·rw [if_pos h] at e0
      have e1 : l = repl1 b [b, b] l := by simpa using congrArg (fun z : Str => z.cps.toList) e0
      have k' := k t s.toks (.inl (by rw [← e1]; exact t0))
      rw [← e1] at k'
      exact k'
     ·rw [if_neg h] at e0
      have k' := k s.toks (s.toks + 1) (.inr ⟨rfl, nls _⟩)
      rw [← e0] at k'
      exact k'
   ·rw [if_neg h]; exact .bad
theorem post_strip {p : Nat → Bool} {a b : Bool} {l : List Nat} {t : Tok} (t0 : c.n l t) {Q : Value → Shared → Prop} (hl : (PySem.stripped p a b (⟨l.toArray⟩ : PySem.Str)).cps.toList.length ≤ cap)
  (k : ∀ tk tk', NewTok c s (PySem.stripped p a b (⟨l.toArray⟩ : PySem.Str)).cps.toList tk tk' → Q (.str ⟨(PySem.stripped p a b (⟨l.toArray⟩ : PySem.Str)).cps.toList.toArray⟩ tk) { s with toks := tk' }) :
  (if stripSame p a b (⟨l.toArray⟩ : PySem.Str) = true then Made.val (.str ⟨l.toArray⟩ t) else Made.str (PySem.stripped p a b (⟨l.toArray⟩ : PySem.Str))).post Q s :=
 post_vos (fun _ => cap_line hl) (fun h => by
  have := k t s.toks (.inl (by rw [strip_same h]; exact t0))
  rw [strip_same h] at this
  exact this) fun _ => k _ _ (.inr ⟨rfl, nls _⟩)
theorem W.smRstrip (X : St g c s) {l : List Nat} {t : Tok} (t0 : c.n l t) : W g f c s (call (.builtin "str.rstrip") [.str ⟨l.toArray⟩ t] []) (mkStr (rstripL l) c.st) MR :=
 big_W fun hl => W.someStr X hl fun Q E k => call_meets F.slot_str_rstrip (typeIs_str _ _ _) F.entry_str_rstrip (F.args_str_rstrip_1 _) (gives_str_rstrip _ _).meets (post_strip t0 hl k)
theorem W.smLstrip (X : St g c s) {l : List Nat} {t : Tok} (t0 : c.n l t) {a : MV} {va : Value} (ra : MR c a va) : W g f c s (call (.builtin "str.lstrip") [.str ⟨l.toArray⟩ t, va] []) (smLstrip l a c.st) MR :=
 W.ite fun h => (ra.str h).elim fun ta q => by
  cases q.1
  exact big_W fun hl => W.someStr X hl fun Q E k => call_meets F.slot_str_lstrip (typeIs_str _ _ _) F.entry_str_lstrip (F.args_str_lstrip_2 _ _) (gives_str_lstrip_chars _ _ _ _).meets (post_strip t0 hl k)
end
section
variable {g : G} {mg mb : Str → Option Value} {f : Fm} {c : Cx} {s : Shared} {sc : Scope} {n : Nat} {le : LEnv}
noncomputable abbrev strsM (ps : List Str) : List MV := (ps.map fun p => p.cps.toList).map fun w => .d (.str w)
inductive Mores (g : G) (c : Cx) (s s' : Shared) (ps : List Str) (vs : List Value) : Prop
 | mk (c' : Cx) (X : St g c' s') (A : Adv c c') (e : c'.st = c.st) (r : MRs c' (strsM ps) vs)
theorem St.mores : ∀ (ps : List Str) {c : Cx} {s : Shared}, St g c s → Mores g c s { s with toks := s.toks + ps.length } ps (strValues (numbered s.toks ps))
 | [], c, _, X => ⟨c, X.same rfl rfl rfl (nlr _), .refl c, rfl, .nil⟩
 | p :: r, c, s, X => by
  have Y := X.more (s' := { s with toks := s.toks + 1 }) rfl rfl rfl p.cps.toList (nls _)
  cases St.mores r Y.1 with | mk c2 X2 A2 e r2 =>
  refine ⟨c2, ?_, Y.2.trans A2, e, .cons ⟨s.toks, rfl, A2.n _ _ (.inr ⟨rfl, rfl⟩)⟩ r2⟩
  rw [llc, Nat.add_comm r.length 1, ← Nat.add_assoc]
  exact X2
theorem Mores.post {s1 s2 : Shared} {ps : List Str} {vs : List Value} (hz : (strsM ps).length ≤ cap)
  (h1 : s2.heap = s1.heap.push (seqO "list" vs.toArray 0)) (h2 : s2.gens = s1.gens) (h3 : s2.os = s1.os) (h4 : s1.toks ≤ s2.toks) : Mores g c s s1 ps vs → Post (fun _ => False) g c (mkList (strsM ps) c.st) MR (.ref s1.heap.objs.size) s2
 | .mk _ X A e r => (X.newList r h1 h2 h3 h4).post A hz e
theorem W.smSplit (X : St g c s) {l : List Nat} {t : Tok} (t0 : c.n l t) {a : MV} {va : Value} (ra : MR c a va) : W g f c s (call (.builtin "str.split") [.str ⟨l.toArray⟩ t, va] []) (smSplit l a c.st) MR := by
 unfold Mine.smSplit
 cases ea : a.str?.bind one? with
 | none => exact .bad
 | some q =>
  refine (bes ea).elim fun p h => ?_
  cases one?_eq h.2
  refine (ra.str h.1).elim fun u z => ?_
  cases z.1
  dsimp only
  by_cases hl : cap < l.length
  ·rw [if_pos hl]; exact .bad
  rw [if_neg hl]
  show W g f c s _ (mkList (strsM (Txt.split ⟨l.toArray⟩ ⟨#[q]⟩)) c.st) MR
  generalize hps : Txt.split (⟨l.toArray⟩ : Str) ⟨#[q]⟩ = ps
  by_cases hz : (strsM ps).length ≤ cap
  ·have hlen : ps.length ≤ cap := by rw [llm, llm] at hz; exact hz
   have one : ps = [⟨l.toArray⟩] → Mores g c s s ps (strValues [(⟨l.toArray⟩, t)]) := fun h => by
    rw [h]; exact ⟨c, X, .refl c, rfl, .cons ⟨t, rfl, t0⟩ .nil⟩
   intro _
   cases h1 : (decide ((⟨l.toArray⟩ : Str).length < (⟨[q].toArray⟩ : Str).length) || decide (strKind (⟨l.toArray⟩ : Str) < strKind ⟨[q].toArray⟩))
   ·cases hf : (occurrences (⟨l.toArray⟩ : Str) ⟨[q].toArray⟩ 0 (⟨l.toArray⟩ : Str).length ((⟨l.toArray⟩ : Str).length + 1)).isEmpty
    ·have hp : partsBetween (⟨l.toArray⟩ : Str) (occurrences (⟨l.toArray⟩ : Str) ⟨[q].toArray⟩ 0 (⟨l.toArray⟩ : Str).length ((⟨l.toArray⟩ : Str).length + 1)) (⟨[q].toArray⟩ : Str).length = ps :=
      ((if_neg (ne_true_of_eq_false h1)).trans (if_neg (ne_true_of_eq_false hf))).symm.trans hps
     refine call_meets F.slot_str_split (typeIs_str _ _ _) F.entry_str_split (F.args_str_split_2 _ _) (meets_str_split_sep _ _ t u h1 rfl hf (cap_line (Nat.le_of_not_lt hl)) (hp.symm ▸ cap_line hlen)) ?_
     rw [hp, strsFrom_eq]
     exact Mores.post (s1 := { s with toks := s.toks + ps.length }) hz rfl rfl rfl (nlr _) (St.mores ps X)
    ·exact call_meets F.slot_str_split (typeIs_str _ _ _) F.entry_str_split (F.args_str_split_2 _ _) (meets_str_split_not_found _ _ t u h1 rfl hf) ((one (hps.symm.trans ((if_neg (ne_true_of_eq_false h1)).trans (if_pos hf)))).post hz rfl rfl rfl (nlr _))
   ·exact call_meets F.slot_str_split (typeIs_str _ _ _) F.entry_str_split (F.args_str_split_2 _ _) (meets_str_split_cannot_occur _ _ t u h1) ((one (hps.symm.trans (if_pos h1))).post hz rfl rfl rfl (nlr _))
  ·exact .bad' (mkList_big hz _)
theorem W.smJoin (X : St g c s) {l : List Nat} {t : Tok} {v : MV} {va : Value} (ra : MR c v va) : W g f c s (call (.builtin "str.join") [.str ⟨l.toArray⟩ t, va] []) (smJoin l v c.st) MR := by
 unfold Mine.smJoin
 cases hw : (lOf v c.st).bind strsOf with
 | none => exact .bad
 | some ws =>
  refine (bes hw).elim fun lst h => ?_
  by_cases hsum : (ws.map (·.length)).sum + ws.length * l.length ≤ cap
  ·dsimp only
   rw [if_pos hsum]
   refine big_W fun hz => ?_
   cases lOf_at X ra h.1 with | mk ad vs k e i1 r1 =>
   cases e
   cases strsOf_are h.2 r1 with | mk z e1 e2 e3 =>
   have hj : glued (⟨l.toArray⟩ : Str) (z.map (·.1)) = ⟨(joinL l ws).toArray⟩ := by rw [StrLaws.glued_eq_join, e2, join_eq]
   have hok : tooLong ((z.map (·.1)).toArray.foldl (· + ·.length + (⟨l.toArray⟩ : Str).length) 0) = false :=
    by
     have := joinOk_of (sep := ⟨l.toArray⟩) (ys := z.map (·.1)) (by
      rw [e2, List.map_map, llm]
      exact cap_line hsum)
     unfold JoinOk at this
     simpa using this
   have big : ∀ {Q : Value → Shared → Prop}, (∀ tk tk', NewTok c s (joinL l ws) tk tk' → Q (.str ⟨(joinL l ws).toArray⟩ tk) { s with toks := tk' }) → (Made.str (glued (⟨l.toArray⟩ : Str) (z.map (·.1)))).post Q s := fun q => by
    rw [hj]; exact ⟨cap_line hz, q _ _ (.inr ⟨rfl, nls _⟩)⟩
   refine W.someStr X hz fun Q E q => call_meets F.slot_str_join (typeIs_str _ _ _) F.entry_str_join (F.args_str_join_2 _ _) (meets_str_join_list _ t ad z hok) ⟨(show vs = (strValues z).toArray by rw [← e1]) ▸ i1.isList, ?_⟩
   cases z with
   | nil => exact big q
   | cons p z =>
    cases z with
    | nil =>
     have hp := e3 p (List.mem_cons_self ..)
     have hj' : p.1 = ⟨(joinL l ws).toArray⟩ := by rw [← hj]; simp [glued]
     have := q p.2 s.toks (.inl (by rw [hj'] at hp; exact hp))
     rw [← hj'] at this
     exact this
    | cons p' z => exact big q
  ·dsimp only; rw [if_neg hsum]; exact .bad
theorem W.strMeth (X : St g c s) (m : SM) {l : List Nat} {t : Tok} (t0 : c.n l t) {args : List MV} {vals : List Value} (r : MRs c args vals) :
  W g f c s (call (.builtin (smId m)) (.str ⟨l.toArray⟩ t :: vals) []) (Mine.strMeth m l args c.st) MR := by
 cases m with
 | lower => exact on0_W (tm := fun v => call (.builtin "str.lower") (.str ⟨l.toArray⟩ t :: v) []) r (W.smLower X)
 | upper => exact on0_W (tm := fun v => call (.builtin "str.upper") (.str ⟨l.toArray⟩ t :: v) []) r (W.smUpper X)
 | isascii => exact on0_W (tm := fun v => call (.builtin "str.isascii") (.str ⟨l.toArray⟩ t :: v) []) r (W.smIsascii X)
 | find => exact on2_W (tm := fun v => call (.builtin "str.find") (.str ⟨l.toArray⟩ t :: v) []) r fun _ _ _ _ => W.smFind X
 | replace => exact on2_W (tm := fun v => call (.builtin "str.replace") (.str ⟨l.toArray⟩ t :: v) []) r fun _ _ _ _ => W.smRepl X t0
 | split => exact on1_W (tm := fun v => call (.builtin "str.split") (.str ⟨l.toArray⟩ t :: v) []) r fun _ _ => W.smSplit X t0
 | join => exact on1_W (tm := fun v => call (.builtin "str.join") (.str ⟨l.toArray⟩ t :: v) []) r fun _ _ => W.smJoin X
 | rstrip => exact on0_W (tm := fun v => call (.builtin "str.rstrip") (.str ⟨l.toArray⟩ t :: v) []) r (W.smRstrip X t0)
 | lstrip => exact on1_W (tm := fun v => call (.builtin "str.lstrip") (.str ⟨l.toArray⟩ t :: v) []) r fun _ _ => W.smLstrip X t0
theorem W.append (X : St g c s) {i : Nat} (hlt : i < c.st.next) {mv : MV} {v : Value} (r : MR c mv v) : W g f c s (call (.builtin "list.append") [.ref (c.ρ i).1, v] []) (appM i mv c.st) MR := by
 unfold Mine.appM
 cases hi : c.st.objs i with
 | list l =>
  have O := X.at_ i
  rw [hi] at O
  cases O with | mk vs k e1 r1 =>
  by_cases hl : l.length < cap
  ·dsimp only
   rw [if_pos hl]
   have i1 : IsL s.heap (c.ρ i).1 vs k := X.heap ▸ e1
   intro _
   refine call_meets F.slot_list_append ⟨_, i1, rfl⟩ F.entry_list_append (F.args_list_append_2 _ _) (list_append (c.ρ i).1 vs k v ((show l.length = vs.size from r1.length) ▸ cap_line (nol hl))) ⟨i1, ?_⟩
   have g1 : (s.heap.update (c.ρ i).1 (Obj.mapSeq fun xs => xs.push v)).get? (c.ρ i).1 = some (seqO "list" (vs.push v) (if (vs.push v).size == vs.size then k else k + 1)) := Heap.get?_update_self _ i1 rfl
   have oth : ∀ a, (c.ρ i).1 ≠ a → (s.heap.update (c.ρ i).1 (Obj.mapSeq fun xs => xs.push v)).get? a = c.h.get? a := fun a q => by rw [Heap.get?_update_other _ _ q, X.heap]
   have T := X.turn (mo' := .list (l ++ [mv])) (h' := s.heap.update (c.ρ i).1 (Obj.mapSeq fun xs => xs.push v)) (s' := { s with heap := s.heap.update (c.ρ i).1 (Obj.mapSeq fun xs => xs.push v), toks := s.toks }) hi hlt (fun _ => id)
    (fun a o ha hne => (oth a fun q => hne q.symm).trans ha) (fun a o ha => (Classical.em ((c.ρ i).1 = a)).elim (fun q => by subst q; exact ⟨_, g1⟩) fun q => ⟨o, (oth a q).trans ha⟩)
    (fun c' hc' A => ⟨_, _, hc' ▸ g1, by rw [Array.toList_push]; exact (r1.mono A (noP c)).append (.cons (r.mono A (noP c)) .nil)⟩) rfl rfl rfl (nlr _)
   exact ⟨.d .none, _, rfl, T.1, T.2, rfl⟩
  ·dsimp only; rw [if_neg hl]; exact .bad
 | _ => exact .bad
end
end
section
open PySem PySem.W PySem.Calls PyProof.Rows
structure Kp (c c' : Cx) : Prop where
 keep : ∀ a o, c.h.get? a = some o → ¬ c.O a → Kept c'.h a o (c.x a ∧ c.w a)
 own : ∀ a o, c.h.get? a = some o → ¬ c.O a → ¬ c'.O a
 live : ∀ a o, c.h.get? a = some o → ¬ c.O a → ∃ o', c'.h.get? a = some o'
 next : c.st.next ≤ c'.st.next
 rho : ∀ n, n < c.st.next → c'.ρ n = c.ρ n
 n : ∀ l t, c.n l t → c'.n l t
structure Enter (y : Addr → Prop) (c c' : Cx) : Prop extends Kp c c' where
 x : ∀ a, c'.x a ↔ c.x a ∨ y a
 new : ∀ a, y a → c.h.get? a = none
 old : ∀ a, c.x a → ¬ y a
 w : ∀ a, c.x a → (c'.w a ↔ c.w a)
theorem Kp.adv {P : Addr → Prop} {c c' : Cx} (K : Kp c c') (hx : c'.x = c.x) (hw : c'.w = c.w) : AdvP P c c' := ⟨fun a o e n _ => K.keep a o e n, K.own, K.live, hx, hw, K.next, K.rho, K.n⟩
section
variable {g : G} {mg mb : Str → Option Value} {f : Fm} {c c' : Cx} {s : Shared} {y : Addr → Prop}
theorem Enter.ny (A : Enter y c c') {a : Addr} {o : Obj} (e : c.h.get? a = some o) : ¬ y a := fun q => by rw [A.new a q] at e; cases e
theorem Enter.up (A : Enter y c c') : Up c c' := ⟨fun a o e n => by
 cases A.keep a o e fun q => n (.inl q) with | mk o' e' _ k =>
 cases k fun q => n (.inr q.1)
 exact ⟨e', fun q => q.elim (A.own a o e fun q => n (.inl q)) fun q => ((A.x a).mp q).elim (fun q => n (.inr q)) (A.ny e)⟩, A.next, A.rho, A.n⟩
noncomputable abbrev Cx.ent (c : Cx) (h' : Heap) (y w : Addr → Prop) : Cx := c.re h' (fun a => c.x a ∨ y a) w
theorem St.enter {s' : Shared} (X : St g c s) (w : Addr → Prop) (hw : ∀ a, c.x a → (w a ↔ c.w a)) {h' : Heap} (k : ∀ a o, c.h.get? a = some o → h'.get? a = some o) (hy : ∀ a, y a → c.h.get? a = none ∧ ∃ o, h'.get? a = some o)
  (hs : s'.heap = h') (hg : s'.gens = s.gens) (ho : s'.os = s.os) (ht : s.toks ≤ s'.toks) : St g (c.ent h' y w) s' ∧ Enter y c (c.ent h' y w) := by
 have ny : ∀ a o, c.h.get? a = some o → ¬ y a := fun a o e q => by rw [(hy a q).1] at e; cases e
 have A : Enter y c (c.ent h' y w) := ⟨⟨fun a o e _ => .here (k a o e), fun _ _ _ n => n, fun a o e _ => ⟨o, k a o e⟩, nlr _, fun _ _ => rfl, fun _ _ h => h⟩, fun _ => .rfl, fun a q => (hy a q).1, fun a q => (X.xlt a q).elim fun o e => ny a o e, hw⟩
 exact ⟨X.re A.up (fun a o _ => k a o) (fun a o e => ⟨k a o (X.base a o e).1, fun q => q.elim (fun q => (X.base a o e).2 (.inr q)) (ny a o (X.base a o e).1)⟩) (fun a q => q.elim (fun q => (X.xlt a q).imp (k a)) fun q => (hy a q).2)
  (fun a q hq => hq.elim (X.sep a q) fun hq => (X.own q).elim fun o e => ny a o e.1 hq) hs hg ho ht, A⟩
theorem leave_kp {c0 c1 c2 : Cx} (En : Enter y c0 c1) (A : AdvP y c1 c2) {h' : Heap} {x w : Addr → Prop} (k : ∀ a o, c2.h.get? a = some o → ¬ y a → h'.get? a = some o) : Kp c0 (c2.re h' x w) :=
 ⟨fun a o e q => by
  cases En.keep a o e q with | mk o1 e1 s1 k1 =>
  cases A.keep a o1 e1 (En.own a o e q) (En.ny e) with | mk o' e' s' kk =>
  exact ⟨o', k a o' e' (En.ny e), s1.trans s', fun nx => (kk fun q1 => ((En.x a).mp q1.1).elim (fun q2 => nx ⟨q2, (En.w a q2).mp q1.2⟩) (En.ny e)).trans (k1 nx)⟩,
 fun a o e q => (En.live a o e q).elim fun o1 e1 => A.own a o1 e1 (En.own a o e q),
 fun a o e q => (En.live a o e q).elim fun o1 e1 => (A.live a o1 e1 (En.own a o e q)).imp fun o2 e2 => k a o2 e2 (En.ny e),
 nlt En.next A.next, fun n hn => (A.rho n (lll hn En.next)).trans (En.rho n hn), fun l t q => A.n l t (En.n l t q)⟩
theorem St.leave' {s' : Shared} {c0 c1 c2 : Cx} (X : St g c2 s) (En : Enter y c0 c1) (A : AdvP y c1 c2) {h' : Heap} (k : ∀ a o, c2.h.get? a = some o → ¬ y a → h'.get? a = some o)
  (hs : s'.heap = h') (hg : s'.gens = s.gens) (ho : s'.os = s.os) (ht : s.toks ≤ s'.toks) : St g (c2.re h' c0.x c0.w) s' ∧ Adv c0 (c2.re h' c0.x c0.w) := by
 have hx : ∀ a, c0.x a → c2.x a := fun a q => by rw [A.x]; exact (En.x a).mpr (.inl q)
 have yx : ∀ a, y a → c2.x a := fun a q => by rw [A.x]; exact (En.x a).mpr (.inr q)
 have k' : ∀ a o, c2.h.get? a = some o → ¬ c2.x a → h'.get? a = some o := fun a o e n => k a o e fun q => n (yx a q)
 exact ⟨X.re ⟨fun a o e n => ⟨k' a o e fun q => n (.inr q), fun q => n (q.imp id (hx a))⟩, nlr _, fun _ _ => rfl, fun _ _ h => h⟩ (fun a o q e => k' a o e (X.sep a q))
  (fun a o e => ⟨k' a o (X.base a o e).1 fun q => (X.base a o e).2 (.inr q), fun q => (X.base a o e).2 (.inr (hx a q))⟩) (fun a q => (X.xlt a (hx a q)).imp fun o e => k a o e (En.old a q)) (fun a q hq => X.sep a q (hx a hq)) hs hg ho ht,
  (leave_kp En A k).adv rfl rfl⟩
theorem St.leave {c0 c1 c2 : Cx} (X : St g c2 s) (En : Enter y c0 c1) (A : AdvP y c1 c2) : St g (c2.re c2.h c0.x c0.w) s ∧ Adv c0 (c2.re c2.h c0.x c0.w) :=
 X.leave' En A (fun _ _ e _ => e) X.heap rfl rfl (nlr _)
theorem St.turnX {s' : Shared} (X : St g c s) {a : Addr} (hy : y a) (hx : ∀ a, y a → c.x a) {h' : Heap} (k : ∀ b o, b ≠ a → c.h.get? b = some o → h'.get? b = some o) (e2 : ∃ o2, h'.get? a = some o2)
  (hs : s'.heap = h') (hg : s'.gens = s.gens) (ho : s'.os = s.os) (ht : s.toks ≤ s'.toks) : St g (c.he h') s' ∧ AdvP y c (c.he h') := by
 have lv : ∀ b o, c.h.get? b = some o → ∃ o', h'.get? b = some o' := fun b o e => (Classical.em (b = a)).elim (fun q => by subst q; exact e2) fun q => ⟨o, k b o q e⟩
 have A : AdvP y c (c.he h') := ⟨fun b o e _ n => .here (k b o (fun q => n (q ▸ hy)) e), fun _ _ _ n => n, fun b o e _ => lv b o e, rfl, rfl, nlr _, fun _ _ => rfl, fun _ _ h => h⟩
 exact ⟨X.re (A.up hx) (fun b o q => k b o fun z => X.sep b q (z ▸ hx a hy)) (fun b o e => ⟨k b o (fun q => (X.base b o e).2 (.inr (q ▸ hx a hy))) (X.base b o e).1, fun q => (X.base b o e).2 (.inr q)⟩) (fun b q => (X.xlt b q).elim fun o e => lv b o e) X.sep hs hg ho ht, A⟩
end
structure Less (a b : MSt) : Prop where
 next : b.next = a.next
 objs : ∀ n, b.objs n = a.objs n ∨ b.objs n = .gone
theorem Less.refl (a : MSt) : Less a a := ⟨rfl, fun _ => .inl rfl⟩
theorem Less.trans {a b c : MSt} (x : Less a b) (y : Less b c) : Less a c := ⟨y.next.trans x.next, fun n => (y.objs n).elim (fun e => (x.objs n).imp e.trans e.trans) .inr⟩
theorem Less.own {a b : MSt} (L : Less a b) {n : Nat} {p : Addr × Addr} {q : Addr} (h : OwnAt (b.objs n) p q) : OwnAt (a.objs n) p q := (L.objs n).elim (fun e => e ▸ h) fun e => by rw [e] at h; exact h.elim
noncomputable def frzL (k : Nat) (l : List MV) (s : MSt) : Option (List D × MSt) := l.foldr (fun v acc => acc.bind fun p => (frz k v p.2).map fun q => (q.1 :: p.1, q.2)) (some ([], s))
section
variable {g : G} {c : Cx} {s : Shared}
theorem St.less (X : St g c s) {st' : MSt} (L : Less c.st st') : St g (c.put st') s ∧ Adv c (c.put st') := X.drop st' (noe L.next.symm) L.objs
structure Frz {α β : Type} (R : Cx → α → β → Prop) (c : Cx) (st' : MSt) (x : α) (w : β) : Prop where
 L : Less c.st st'
 r : R (c.put st') x w
abbrev VRc (c : Cx) (x : D) (w : Value) : Prop := VR c.S c.h c.n x w
abbrev VRsc (c : Cx) (x : List D) (w : List Value) : Prop := VRs c.S c.h c.n x w
abbrev VEsc (c : Cx) (x : List (Str × D)) (w : List DictEntry) : Prop := VEs c.S c.h c.n x w
theorem frzL_sound (k : Nat) (ih : ∀ {v : MV} {w : Value} {c : Cx} {x : D} {st' : MSt}, St g c s → MR c v w → frz k v c.st = some (x, st') → Frz VRc c st' x w) :
  ∀ {l : List MV} {ws : List Value} {c : Cx} {xs : List D} {st' : MSt}, St g c s → MRs c l ws → frzL k l c.st = some (xs, st') → Frz VRsc c st' xs ws
 | [], _, _, _, _, _, r, e => by cases e; exact ⟨.refl _, r⟩
 | v :: l, _, c, xs, st', X, .mk w ws e0 a b, e => by
  cases e0
  refine (bes e).elim fun p h => (mes h.2).elim fun q h2 => ?_
  cases h2.2
  have F1 := frzL_sound k ih X b h.1
  have Y := X.less F1.L
  have F2 := ih Y.1 (a.mono Y.2 (noP c)) h2.1
  have A2 := (Y.1.less F2.L).2
  exact ⟨F1.L.trans F2.L, .mk w ws rfl F2.r (VRs.mono A2.n (A2.keepS (noP _)) _ _ F1.r)⟩
theorem frz_sound : ∀ (k : Nat) {v : MV} {w : Value} {c : Cx} {x : D} {st' : MSt}, St g c s → MR c v w → frz k v c.st = some (x, st') → Frz VRc c st' x w
 | 0, _, _, _, _, _, _, _, e => nos e
 | k + 1, .d _, w, c, x, st', X, r, e => by cases e; exact ⟨.refl _, r⟩
 | k + 1, .ref n, w, c, x, st', X, r, e => by
  have O := X.at_ n
  unfold frz at e
  cases hm : c.st.objs n with
  | list l =>
   rw [hm] at e O
   refine (mes e).elim fun p h => ?_
   cases h.2
   cases O with | mk vs j g r' =>
   have F1 := frzL_sound k (frz_sound k) X r' h.1
   have L2 : Less p.2 ⟨p.2.next, upd p.2.objs n .gone⟩ := ⟨rfl, fun m => (Classical.em (m = n)).elim (fun q => .inr (if_pos q)) fun q => .inl (if_neg q)⟩
   have A2 := ((X.less F1.L).1.less L2).2
   refine ⟨F1.L.trans L2, ⟨_, vs, j, r.2, g, fun q => q.elim (fun q => q.elim fun m q => ?_) (X.sep _ ⟨n, by rw [hm]; rfl⟩), VRs.mono A2.n (A2.keepS (noP _)) _ _ F1.r⟩⟩
   have z : m = n := X.inj m n _ ((F1.L.trans L2).own q) (by rw [hm]; rfl)
   have q : OwnAt (upd p.2.objs n .gone m) (c.ρ m) (c.ρ n).1 := q
   rw [z] at q
   unfold upd at q
   rw [if_pos rfl] at q
   exact q
  | _ => rw [hm] at e; exact nos e
 | k + 1, .tup l, w, c, x, st', X, r, e => by
  unfold frz at e
  refine (mes e).elim fun p h => ?_
  cases h.2
  cases r with | mk a vs j e g n r =>
  have F1 := frzL_sound k (frz_sound k) X r h.1
  exact ⟨F1.L, ⟨a, vs, j, e, g, ((X.less F1.L).2.keepS (noP c) _ _ g n).2, F1.r⟩⟩
theorem frzs_sound (k : Nat) : ∀ {fs : List (Str × MV)} {es : List DictEntry} {c : Cx} {ds : List (Str × D)} {st' : MSt}, St g c s → MEs c fs es → frzs k fs c.st = some (ds, st') → Frz VEsc c st' ds es
 | [], _, _, _, _, _, r, e => by cases e; exact ⟨.refl _, r⟩
 | (x, v) :: l, _, c, ds, st', X, .mk w ws e0 (.mk t kk a) b, e => by
  cases e0
  refine (bes e).elim fun q h => (mes h.2).elim fun p h2 => ?_
  cases h2.2
  have F1 := frz_sound k X a h.1
  have Y := X.less F1.L
  have F2 := frzs_sound k Y.1 (MEs.mono Y.2 (noP c) b) h2.1
  have A2 := (Y.1.less F2.L).2
  exact ⟨F1.L.trans F2.L, .mk w ws rfl ⟨t, kk, VR.mono A2.n (A2.keepS (noP _)) _ _ F1.r⟩ F2.r⟩
theorem above_less (n : Nat) (st : MSt) : Less st ⟨st.next, above n st.objs⟩ := ⟨rfl, fun m => (Classical.em (m < n)).elim (fun q => .inl (if_pos q)) fun q => .inr (if_neg q)⟩
theorem handBack_sound {n : Nat} {v : MV} {w : Value} (X : St g c s) (r : MR c v w) (hb : handBack n v c.st ≠ .bad) : Post (fun _ => False) g c (handBack n v c.st) MR w s := by
 unfold handBack at hb ⊢
 cases h : frz 6 v c.st with
 | none => rw [h] at hb; exact absurd rfl hb
 | some p =>
  have F1 := frz_sound 6 X r h
  have Y := X.less F1.L
  have Y2 := Y.1.less (above_less n p.2)
  exact ⟨.d p.1, _, rfl, Y2.1, Y.2.trans Y2.2, VR.mono Y2.2.n (Y2.2.keepS (noP _)) _ _ F1.r⟩
end
section
variable {g : G} {c c' : Cx} {s : Shared} {y : Addr → Prop}
noncomputable def Cx.left (c2 : Cx) (l : List MV) (D : Addr) (h' : Heap) (x w : Addr → Prop) : Cx := (c2.re h' x w).add (.list l) (D, 0) h'
theorem St.leaveG {s' : Shared} {z x w : Addr → Prop} {c0 c1 c2 : Cx} (X : St g c2 s) (En : Enter y c0 c1) (A : AdvP y c1 c2) {h' : Heap} (k : ∀ a o, c2.h.get? a = some o → ¬ y a → h'.get? a = some o)
  (hs : s'.heap = h') (hg : s'.gens = s.gens) (ho : s'.os = s.os) (ht : s.toks ≤ s'.toks)
  (hxz : ∀ a, x a → c0.x a ∨ z a) (hzy : ∀ a, z a → y a) (hz : ∀ a, z a → ∃ o, h'.get? a = some o) {D : Addr} (hD : y D) (hDz : ¬ z D) {l : List MV} {vs : Array Value} {m : Nat} (eD : h'.get? D = some (seqO "list" vs m)) (r : MRs c2 l vs.toList) :
  St g (c2.left l D h' x w) s' ∧ Kp c0 (c2.left l D h' x w) ∧ MR (c2.left l D h' x w) (.ref c2.st.next) (.ref D) := by
 have yx : ∀ a, y a → c2.x a := fun a q => by rw [A.x]; exact (En.x a).mpr (.inr q)
 have hx : ∀ a, x a → c2.x a := fun a q => (hxz a q).elim (fun q => by rw [A.x]; exact (En.x a).mpr (.inl q)) fun q => yx a (hzy a q)
 have own : ∀ a, (c2.left l D h' x w).O a → c2.O a ∨ a = D := fun a q => St.add_own (c := c2.re h' x w) q
 have hS : ∀ a, (c2.left l D h' x w).S a → c2.S a := fun a q => q.elim (fun q => (own a q).imp id fun (q : a = D) => show c2.x a from q ▸ yx D hD) fun q => .inr (hx a q)
 have U : Up c2 (c2.left l D h' x w) := ⟨fun a o e n => ⟨k a o e fun q => n (.inr (yx a q)), fun q => n (hS a q)⟩, Nat.le_succ _, fun n hn => if_neg (nnl hn), fun _ _ h => h⟩
 have K := leave_kp (x := x) (w := w) En A k
 refine ⟨⟨hs, fun a o e => U.k a o (X.base a o e).1 (X.base a o e).2, upd_at (P := fun _ => OAt _) ⟨vs, m, eD, MRs.up U l _ r⟩ fun n _ => (X.at_ n).up U fun a o q e => k a o e fun hy => X.sep a ⟨n, q⟩ (yx a hy),
  add_inj X.inj fun a m q z => X.sep a ⟨m, z⟩ ((show a = D from q) ▸ yx D hD), fun n hn => (if_neg (Nat.ne_of_gt hn)).trans (X.fresh n (Nat.le_of_succ_le hn)), fun a q => (hxz a q).elim (fun q => (X.xlt a (hx a ‹_›)).imp fun o e => k a o e (En.old a q)) (hz a), hg.trans X.gens, ho.trans X.os, X.n0, lll X.pos ht, X.tk ht, X.same_, fun a q hq => (own a q).elim (fun q => X.sep a q (hx a hq)) fun q => ?_⟩,
  ⟨K.keep, fun a o e q z => (own a z).elim (K.own a o e q) fun q => En.ny e (q ▸ hD), K.live, nlt K.next (Nat.le_succ _), fun n hn => (U.rho n (lll hn (nlt En.next A.next))).trans (K.rho n hn), K.n⟩, nls _, congrArg (fun p : Addr × Addr => Value.ref p.1) (show _ = rset c2.ρ c2.st.next (D, 0) c2.st.next from (if_pos rfl).symm)⟩
 exact (hxz a hq).elim (fun z => En.old a z (q ▸ hD)) fun z => hDz (q ▸ z)
noncomputable abbrev closeOne (env : Env) (p : Str × NameKind) (cs : List (Str × Addr)) : Sem (ForInStep (List (Str × Addr))) := if (p.2 == NameKind.free) = true then (do let c ← cellOf env p.1; pure (ForInStep.yield ((p.1, c) :: cs))) else pure (ForInStep.yield cs)
theorem closure_of {env : Env} : ∀ (names : List (Str × NameKind)) (acc : List (Str × Addr)), (∀ p ∈ names, p.2 = .free → ∃ ca, env.cells.lookup p.1 = some ca) →
  ∃ cl, (forIn names acc (closeOne env) : Sem (List (Str × Addr))) = pure cl ∧ ∀ x ca, env.cells.lookup x = some ca → ((x, NameKind.free) ∈ names ∨ acc.lookup x = some ca) → cl.lookup x = some ca
 | [], acc, _ => ⟨acc, rfl, fun x ca _ h => h.elim (fun h => nomatch h) id⟩
 | (n, k) :: r, acc, h => by
  have hr := fun p hp => h p (List.mem_cons_of_mem _ hp)
  rw [List.forIn_cons]
  by_cases hk : k = .free
  ·subst hk
   refine (h (n, .free) (List.mem_cons_self ..) rfl).elim fun ca hca => ?_
   refine (closure_of r ((n, ca) :: acc) hr).imp fun cl q => ⟨?_, fun x ca' hx hm => q.2 x ca' hx ?_⟩
   ·simp only [closeOne, cellOf, hca, beq_self_eq_true, if_true]
    exact q.1
   ·rw [List.lookup_cons]
    by_cases e : x = n
    ·right; rw [beq_iff_eq.mpr e]; exact (e ▸ hca).symm.trans hx
    ·refine hm.imp (fun hm => (lmc hm).elim (fun z => absurd (congrArg Prod.fst z) e) id) fun hm => ?_
     rw [beq_false_of_ne e]; exact hm
  ·refine (closure_of r acc hr).imp fun cl q => ⟨?_, fun x ca' hx hm => q.2 x ca' hx (hm.imp (fun hm => (lmc hm).elim (fun z => absurd (congrArg Prod.snd z).symm hk) id) id)⟩
   simp only [closeOne, beq_false_of_ne hk, Bool.false_eq_true, if_false]
   exact q.1
theorem closureFor_of {env : Env} {sc : Scope} (h : ∀ p ∈ sc.names, p.2 = .free → ∃ ca, env.cells.lookup p.1 = some ca) :
  ∃ cl, closureFor sc env = pure cl ∧ ∀ x, (x, NameKind.free) ∈ sc.names → cl.lookup x = env.cells.lookup x :=
 (closure_of sc.names [] h).imp fun cl q => ⟨(congrArg (fun t : Sem (List (Str × Addr)) => t >>= fun z => pure z) q.1).trans rfl, fun x hx => (h _ hx rfl).elim fun ca e => (q.2 x ca e (.inl hx)).trans e.symm⟩
end
theorem lookup_map2 {α β : Type} {F : Str × α → Str × β} {G : Str → α → β} (h : ∀ n k, F (n, k) = (n, G n k)) : ∀ {l : List (Str × α)} {x : Str}, (l.map F).lookup x = (l.lookup x).map (G x)
 | [], _ => rfl
 | (n, k) :: r, x => by
  rw [List.map_cons, h, List.lookup_cons, List.lookup_cons]
  by_cases q : x = n
  ·rw [beq_iff_eq.mpr q, q]; rfl
  ·rw [beq_false_of_ne q]; exact lookup_map2 h
noncomputable abbrev rel1 (env : Env) (n : Str) (k : NameKind) : NameKind := if (k == NameKind.free && env.scope.kind == .function && env.kindOf n == some .cell) then NameKind.cell else k
structure CompOk (sc cs : Scope) (x : Str) : Prop where
 kind : cs.kind = .function
 x : cs.names.lookup x = some .local
 cell : ∀ y ∈ cs.names, y.2 ≠ .cell
 loc : ∀ y ∈ cs.names, y.2 = .local → cs.names.lookup y.1 = some .local
 free : ∀ y ∈ cs.names, y.2 = .free → far sc y.1
theorem or_ne {α : Type} [BEq α] [LawfulBEq α] {a b : α} {q : Bool} (h : (a != b || q) = true) (e : a = b) : q = true := by
 subst e
 rw [bne_self_eq_false] at h
 exact h
theorem compOk_of {sc cs : Scope} {x : Str} (h : compOk sc cs x = true) : CompOk sc cs x := by
 have h1 := (Bool.and_eq_true _ _).mp h
 have h2 := (Bool.and_eq_true _ _).mp h1.1
 have h4 := fun y hy => (Bool.and_eq_true _ _).mp (List.all_eq_true.mp h1.2 y hy)
 have h5 := fun y hy => (Bool.and_eq_true _ _).mp (h4 y hy).1
 exact ⟨beq_iff_eq.mp h2.1, beq_iff_eq.mp h2.2, fun y hy => bne_iff_ne.mp (h5 y hy).1, fun y hy e => beq_iff_eq.mp (or_ne (h5 y hy).2 e),
  fun y hy e => ((Bool.or_eq_true _ _).mp (or_ne (by rw [← Bool.or_assoc]; exact (h4 y hy).2) e)).imp beq_iff_eq.mp beq_iff_eq.mp⟩
section
variable {g : G} {mg mb : Str → Option Value} {f : Fm} {c : Cx} {s : Shared} {sc cs : Scope} {n u : Nat} {le : LEnv}
noncomputable abbrev compF (cs : Scope) (cl : List (Str × Addr)) (C : Addr) (f : Fm) : Fm := ⟨f.A, compEnvC cs cl C f.env, f.envs, C⟩
abbrev Caps (cs : Scope) (cl : List (Str × Addr)) (f : Fm) : Prop := ∀ x, (x, NameKind.free) ∈ cs.names → cl.lookup x = f.env.cells.lookup x
theorem comp_fm {cl : List (Str × Addr)} {C : Addr} (Y : FmOk sc f n u) {x : Str} (ok : CompOk sc cs x) (hcl : Caps cs cl f) : FmOk cs (compF cs cl C f) n u := by
 have look : ∀ y, (compEnvC cs cl C f.env).kindOf y = (cs.names.lookup y).map (rel1 f.env y) := fun y => lookup_map2 (F := fun (n, k) => if (k == NameKind.free && f.env.scope.kind == .function && f.env.kindOf n == some .cell) then (n, NameKind.cell) else (n, k)) (fun n k => by
  show (if _ then _ else _) = (n, if _ then _ else _)
  split <;> rfl)
 refine ⟨Y.fr, Y.hd, Y.dep, Y.uni, ok.kind, Y.glo, Y.blt, rfl, fun y e => by rw [look, e]; rfl, fun y e => by rw [look, e]; rfl, fun y e => ?_, fun y e => ?_⟩
 ·refine e.elim (fun e => absurd rfl (ok.cell _ (mem_of_lookup e))) fun e => ?_
  rw [look, e, Option.map_some]
  unfold rel1
  split
  ·exact .inl rfl
  ·exact .inr rfl
 ·refine e.elim (fun e => absurd rfl (ok.cell _ (mem_of_lookup e))) fun e => ?_
  have hm := mem_of_lookup e
  exact (Y.cl y (ok.free _ hm rfl)).imp fun ca h => (hcl y hm).trans h
theorem comp_fr {cl : List (Str × Addr)} {C : Addr} {x : Str} (ok : CompOk sc cs x) (hcl : Caps cs cl f) (F : FrSt g sc f le c)
  {m : Str → Option Value} {mv : MV} {v : Value} (hn : c.h.Ns C m) (hm : m x = some v) (r : MR c mv v) (h1 : ¬ c.O C) (h2 : c.x C) : FrSt g cs (compF cs cl C f) (compEnv cs le x mv) c := by
 refine ⟨⟨h1, h2, F.frs, F.frO, F.wf⟩, ⟨m, hn, fun y w k e => ?_⟩, fun y w k e => k.elim (fun k => absurd rfl (ok.cell _ (mem_of_lookup k))) fun k => ?_⟩
 ·unfold compEnv at e
  by_cases q : y = x
  ·rw [if_pos q] at e; cases e; exact ⟨v, q ▸ hm, r⟩
  ·rw [if_neg q, if_neg (by rw [k]; exact nofun)] at e; exact nos e
 ·have q : y ≠ x := fun q => by rw [q, ok.x] at k; cases k
  have hmem := mem_of_lookup k
  exact (F.cel y w (ok.free _ hmem rfl) (((if_neg q).trans (if_pos k)).symm.trans e)).imp fun ca z => ⟨(hcl y hmem).trans z.1, z.2⟩
end
structure Pl (g : G) (n u : Nat) (sc : Scope) (f : Fm) (le : LEnv) (c : Cx) (s : Shared) : Prop where
 Y : FmOk sc f n u
 X : St g c s
 F : FrSt g sc f le c
theorem Pl.adv {g : G} {n u : Nat} {sc : Scope} {f : Fm} {le : LEnv} {c c1 : Cx} {s s1 : Shared} (Z : Pl g n u sc f le c s) (X1 : St g c1 s1) (A : Adv c c1) : Pl g n u sc f le c1 s1 := ⟨Z.Y, X1, Z.F.adv A⟩
section
variable {g : G} {mg mb : Str → Option Value} {f : Fm} {c c' : Cx} {s : Shared} {sc cs : Scope} {n u : Nat} {le : LEnv} {y : Addr → Prop}
theorem FrSt.enter (F : FrSt g sc f le c) (A : Enter y c c') (hw : ∀ a, y a → ¬ c'.w a) : FrSt g sc f le c' :=
 ⟨⟨F.ns.there.elim fun o e => A.own _ o e.1 F.notO, (A.x _).mpr (.inl F.inx), frames_keep (fun e he a ha o eo n => (A.keep a o eo (F.frO e he a ha).1).notF n) F.frs,
  fun e he a ha => ⟨(frame_there F.frs he ha).elim fun o eo => A.own a o eo.1 (F.frO e he a ha).1, (A.x _).mpr (.inl (F.frO e he a ha).2.1), (A.w a (F.frO e he a ha).2.1).mpr (F.frO e he a ha).2.2⟩,
  fun a q r => ((A.x a).mp q).elim (fun q => F.wf a q ((A.w a q).mp r)) fun q => absurd r (hw a q)⟩,
  F.ns.up A.up fun o e => (A.keep _ o e F.notO).data, fun x v h e => (F.cel x v h e).imp fun _ q => ⟨q.1, q.2.up A.up⟩⟩
theorem n01 (I : Addr) : I ≠ I + 1 := nnl (nls I)
theorem n02 (I : Addr) : I ≠ I + 2 := nnl (Nat.lt_add_of_pos_right (by decide))
theorem n12 (I : Addr) : I + 1 ≠ I + 2 := nnl (nls (I + 1))
def yy (I : Addr) : Addr → Prop := fun b => b = I ∨ b = I + 1 ∨ b = I + 2
structure Own3 (I ad j : Nat) (vs : Array Value) (m : Nat) (mm : Str → Option Value) (h : Heap) : Prop where
 it : h.IsListIter I ad j
 ls : h.get? (I + 1) = some (seqO "list" vs m)
 ns : h.Ns (I + 2) mm
theorem iter_keep {h h' : Heap} {I ad j : Nat} (e : h'.get? I = h.get? I) : h.IsListIter I ad j → h'.IsListIter I ad j
 | ⟨o, ho, r⟩ => ⟨o, e.trans ho, r⟩
theorem Ns_same {h h' : Heap} {a : Addr} {m : Str → Option Value} (e : h'.get? a = h.get? a) : h.Ns a m → h'.Ns a m := Ns_keep fun o ho => ⟨o, e.trans ho, rfl⟩
structure CompC (g : G) (f : Fm) (sc cs : Scope) (n u : Nat) (le : LEnv) (x : Str) (cl : List (Str × Addr)) (I : Addr) (c : Cx) : Prop where
 Y : FmOk sc f n u
 ok : CompOk sc cs x
 hcl : Caps cs cl f
 F : FrSt g sc f le c
 yx : ∀ b, yy I b → c.x b
 w : ∀ b, yy I b → ¬ c.w b
 hL : ¬ yy I f.L
 hfr : ∀ e ∈ f.envs, ∀ a, e.frame = some a → ¬ yy I a
theorem CompC.adv {x : Str} {cl : List (Str × Addr)} {I : Addr} (K : CompC g f sc cs n u le x cl I c) (A : AdvP (yy I) c c') : CompC g f sc cs n u le x cl I c' :=
 ⟨K.Y, K.ok, K.hcl, K.F.advP A K.yx K.hL fun e he a ha h => absurd h (K.hfr e he a ha), A.x ▸ K.yx, A.w ▸ K.w, K.hL, K.hfr⟩
abbrev EltOk (g : G) (f : Fm) (cs : Scope) (n u : Nat) (elt : Expr) (E : LEnv → M MV) : Prop :=
 ∀ (f' : Fm) (c' : Cx) (s' : Shared) (le' : LEnv), f'.A = f.A → f'.envs = f.envs → FmOk cs f' n u → St g c' s' → FrSt g cs f' le' c' → W g f' c' s' (eval elt f'.env) (E le' c'.st) MR
inductive Turned (g : G) (I ad j : Nat) (vs : Array Value) (mm : Str → Option Value) (r : O MV) (c : Cx) (s' : Shared) : Prop
 | mk (c' : Cx) (a : MV) (v : Value) (m : Nat) (X : St g c' s') (A : AdvP (yy I) c c') (e : r = .ok a c'.st) (r : MR c' a v) (C : Own3 I ad j (vs.push v) m mm s'.heap)
theorem comp_elt {x : Str} {cl : List (Str × Addr)} {I ad j : Nat} {vs : Array Value} {m : Nat} {mm : Str → Option Value} (K : CompC g f sc cs n u le x cl I c) {elt : Expr} {px : Pos} {E : LEnv → M MV} (hE : EltOk g f cs n u elt E)
  (X : St g c s) (C : Own3 I ad j vs m mm s.heap) {mv : MV} {v : Value} (r : MR c mv v) (hsz : vs.size ≤ sizeLine) (hok : ∃ a st', E (compEnv cs le x mv) c.st = .ok a st') {Ex : Value → Shared → Prop} {Q : Shared → Prop}
  (hQ : ∀ s', Turned g I ad j vs (fun z => if z = x then some v else mm z) (E (compEnv cs le x mv) c.st) c s' → Q s') :
  wpAny (model g.prog g.w) f.A (assign (.Name x px) (compEnvC cs cl (I + 2) f.env) v) (fun _ s₂ => wpAny (model g.prog g.w) f.A (eval elt (compEnvC cs cl (I + 2) f.env)) (fun x s₃ => wpAny (model g.prog g.w) f.A (call (.builtin "list.append") [.ref (I + 1), x]) (fun _ s₄ => Q s₄) Ex s₃) Ex s₂) Ex s := by
 have Ye := comp_fm (C := I + 2) K.Y K.ok K.hcl
 have fn : (compEnvC cs cl (I + 2) f.env).scope.kind = .function := Ye.fn
 refine wpAny_assign_Name (wpAny_storeName_local (Ye.kl x K.ok.x) C.ns (fun h2 ns2 same2 => ?_) (by rw [fn]; rfl))
 have s2 : ∀ b, b ≠ I + 2 → h2.get? b = s.heap.get? b := same2.2
 have T := X.turnX (y := yy I) (a := I + 2) (s' := { s with heap := h2, toks := s.toks + 1 }) (h' := h2) (.inr (.inr rfl)) K.yx (fun b o nb eb => (s2 b nb).trans (X.heap ▸ eb)) ((Ns_there ns2).imp fun _ q => q.1) rfl rfl rfl (Nat.le_succ _)
 have K1 := K.adv T.2
 have Fe := comp_fr (C := I + 2) (mv := mv) (v := v) K.ok K.hcl K1.F ns2 (if_pos rfl) (r.mono T.2 K.yx) (fun q => T.1.sep _ q (K1.yx _ (.inr (.inr rfl)))) (K1.yx _ (.inr (.inr rfl)))
 have We := hE (compF cs cl (I + 2) f) _ _ (compEnv cs le x mv) rfl rfl Ye T.1 Fe
 refine hok.elim fun a h => h.elim fun st' h => ?_
 have h' : E (compEnv cs le x mv) (c.he h2).st = .ok a st' := h
 rw [h'] at We
 refine wpAny_mono (We nofun) (fun v2 s3 p => ?_) fun _ _ q => nomatch q.1
 cases p with | mk a2 c2 e X2 A2 r2 =>
 cases e
 have keepX : ∀ b, yy I b → ∀ o, h2.get? b = some o → s3.heap.get? b = some o := fun b hb o eb => by
  cases A2.keep b o eb (fun q => T.1.sep _ q (K1.yx b hb)) id with | mk o' e' _ kx =>
  cases kx fun q => K1.w b hb q.2
  exact X2.heap ▸ e'
 have K2 := K1.adv A2.toP
 have eD : s3.heap.get? (I + 1) = some (seqO "list" vs m) := keepX _ (.inr (.inl rfl)) _ ((s2 _ (n12 I)).trans C.ls)
 refine call_meets PySem.F.slot_list_append ⟨_, eD, rfl⟩ PySem.F.entry_list_append (PySem.F.args_list_append_2 _ _) (list_append (I + 1) vs m v2 hsz) ⟨eD, hQ _ ?_⟩
 have g1 : (s3.heap.update (I + 1) (Obj.mapSeq fun xs => xs.push v2)).get? (I + 1) = some (seqO "list" (vs.push v2) (if (vs.push v2).size == vs.size then m else m + 1)) := Heap.get?_update_self _ eD rfl
 have oth : ∀ b, b ≠ I + 1 → (s3.heap.update (I + 1) (Obj.mapSeq fun xs => xs.push v2)).get? b = s3.heap.get? b := fun b nb => Heap.get?_update_other _ _ (fun q => nb q.symm)
 have T4 := X2.turnX (y := yy I) (a := I + 1) (s' := { s3 with heap := s3.heap.update (I + 1) (Obj.mapSeq fun xs => xs.push v2), toks := s3.toks }) (h' := s3.heap.update (I + 1) (Obj.mapSeq fun xs => xs.push v2)) (.inr (.inl rfl)) K2.yx (fun b o nb eb => (oth b nb).trans (X2.heap ▸ eb)) ⟨_, g1⟩ rfl rfl rfl (nlr _)
 refine ⟨_, _, v2, _, T4.1, T.2.trans (A2.toP.trans T4.2), h, r2.mono T4.2 K2.yx, ⟨?_, g1, ?_⟩⟩
 ·exact C.it.elim fun o q => ⟨o, (oth I (n01 I)).trans (keepX I (.inl rfl) o ((s2 I (n02 I)).trans q.1)), q.2⟩
 ·exact Ns_keep (fun o e => ⟨o, (oth (I + 2) (n12 I).symm).trans (keepX (I + 2) (.inr (.inr rfl)) o e), rfl⟩) ns2
theorem gather_cons {F : MV → M MV} {v : MV} {r rs : List MV} {st st' : MSt} (h : gather F (v :: r) st = .ok rs st') : ∃ a st1 rs', F v st = .ok a st1 ∧ gather F r st1 = .ok rs' st' ∧ rs = a :: rs' := by
 cases h1 : F v st with
 | bad => exact nomatch (bind_bad h1).symm.trans h
 | exc => exact nomatch (bind_exc h1).symm.trans h
 | ok a st1 =>
  have h := (bind_ok h1).symm.trans h
  cases h2 : gather F r st1 with
  | bad => exact nomatch (bind_bad h2).symm.trans h
  | exc => exact nomatch (bind_exc h2).symm.trans h
  | ok rs' st2 =>
   cases (bind_ok h2).symm.trans h
   exact ⟨a, st1, rs', rfl, h2, rfl⟩
inductive CompI (g : G) (I ad : Nat) (items : Array Value) (G : MV → M MV) (total : List MV) (fin : MSt) (c0 : Cx) (k : Nat) (s : Shared) : Prop
 | mk (j : Nat) (rest : List MV) (c : Cx) (rs : List MV) (vs : Array Value) (m : Nat) (mm : Str → Option Value) (rs2 : List MV) (hk : k = rest.length) (X : St g c s) (A : AdvP (yy I) c0 c) (C : Own3 I ad j vs m mm s.heap) (r : MRs c rest (items.toList.drop j)) (r2 : MRs c rs vs.toList)
  (hg : gather G rest c.st = .ok rs2 fin) (ht : rs ++ rs2 = total)
structure Done (g : G) (I : Addr) (total : List MV) (fin : MSt) (c0 c : Cx) (s : Shared) (h' : Heap) (vs : Array Value) (m : Nat) (mm : Str → Option Value) : Prop where
 X : St g c s
 A : AdvP (yy I) c0 c
 e : c.st = fin
 k : ∀ b o, b ≠ I → s.heap.get? b = some o → h'.get? b = some o
 ls : h'.get? (I + 1) = some (seqO "list" vs m)
 r : MRs c total vs.toList
 ns : h'.Ns (I + 2) mm
theorem comp_loop {x : Str} {cl : List (Str × Addr)} {I ad : Nat} {c3 : Cx} {s3 : Shared} (K : CompC g f sc cs n u le x cl I c3) {elt iter : Expr} {px pos : Pos} {E : LEnv → M MV} (hE : EltOk g f cs n u elt E)
  {items : Array Value} {nn k : Nat} {total : List MV} {fin : MSt} (adS : ¬ c3.S ad) (ead : c3.h.get? ad = some (seqO "list" items nn)) (hcap : total.length ≤ cap) (h0 : CompI g I ad items (fun v => E (compEnv cs le x v)) total fin c3 k s3)
  {R : Result → Shared → Prop} (hend : ∀ cj s' h' vs m mm, Done g I total fin c3 cj s' h' vs m mm → R (.ok .next) { s' with heap := h' }) :
  codeAny (model g.prog g.w) f.A (.compLoop (.ListComp elt [⟨.Name x px, iter, [], 0⟩] cs pos) 0 (.ref I) (.ref (I + 1)) (compEnvC cs cl (I + 2) f.env)) R s3 := by
 refine codeAny_compLoop_list (CompI g I ad items (fun v => E (compEnv cs le x v)) total fin c3) (fun k s' hi => ?_) k h0
 cases hi with | mk j rest cj rs vs m mm rs2 hk Xj Aj C hrest hrs hgj htot =>
 have Kj := K.adv Aj
 have iad : s'.heap.IsList ad items := ⟨_, Xj.heap ▸ (Aj.keepS K.yx ad _ ead adS).1, rfl, _, rfl⟩
 have hd : items[j]? = (items.toList.drop j)[0]? := by rw [List.getElem?_drop, Nat.add_zero, Array.getElem?_toList]
 cases rest with
 | nil =>
  have hn : items.toList.drop j = [] := hrest
  rw [hn] at hd
  refine wpAny_pyNext_list_end K.Y.hd C.it iad hd fun h' ext => ?_
  cases hgj
  rw [lan] at htot
  subst htot
  exact hend cj s' h' vs m mm ⟨Xj, Aj, rfl, ext, ext _ _ (n01 I).symm C.ls, hrs, Ns_keep (fun o e => ⟨o, ext _ o (n02 I).symm e, rfl⟩) C.ns⟩
 | cons v rest =>
  cases hrest with | mk w ws hq rv rr =>
  rw [hq] at hd
  have hws : ws = items.toList.drop (j + 1) := by rw [← List.drop_drop, hq]; rfl
  refine wpAny_pyNext_list_item C.it iad hd fun h' hit' same1 => ?_
  have T := Xj.turnX (y := yy I) (a := I) (s' := { s' with heap := h' }) (h' := h') (.inl rfl) Kj.yx (fun b o nb eb => (same1.2 b nb).trans (Xj.heap ▸ eb)) (hit'.imp fun o q => q.1) rfl rfl rfl (nlr _)
  refine (gather_cons hgj).elim fun a z => z.elim fun st1 z => z.elim fun rs' z => ?_
  have hlen : rs.length ≤ cap := nlt (by rw [← htot, lla]; exact nla _ _) hcap
  refine comp_elt (Kj.adv T.2) hE T.1 ⟨hit', (same1.2 _ (n01 I).symm).trans C.ls, Ns_same (same1.2 _ (n02 I).symm) C.ns⟩ (rv.mono T.2 Kj.yx) ((show rs.length = vs.size from hrs.length) ▸ cap_line hlen) ⟨a, st1, z.1⟩ fun s4 t => ?_
  cases t with | mk c4 a4 v4 m4 X4 A4 e4 r4 C4 =>
  cases z.1.symm.trans e4
  have A5 := T.2.trans A4
  refine ⟨rest.length, hk ▸ nls _, j + 1, rest, c4, rs ++ [a], _, m4, _, rs', rfl, X4, Aj.trans A5, C4, hws ▸ MRs.mono A5 Kj.yx rr, ?_, z.2.1, ?_⟩
  ·rw [Array.toList_push]
   exact (hrs.mono A5 Kj.yx).append (.cons r4 .nil)
  ·rw [← htot, z.2.2, lap]; rfl
noncomputable abbrev compM (m : M MV) (G : MV → M MV) : M MV := M.bind m fun iv => M.bind (frzM iv) fun l => M.bind (noExc (gather G (l.map .d))) mkList
inductive FrzM (v : MV) (st : MSt) : Prop
 | mk (l : List D) (st' : MSt) (h : frz 6 v st = some (.lst l, st')) (e : frzM v st = .ok l st')
theorem frzM_at {v : MV} {st : MSt} (h : frzM v st ≠ .bad) : FrzM v st := by
 cases hf : frz 6 v st with
 | none => exact absurd (by unfold frzM; rw [hf]) h
 | some p =>
  obtain ⟨d, st'⟩ := p
  cases d with
  | lst l => exact ⟨l, st', hf, by unfold frzM; rw [hf]⟩
  | _ => exact absurd (by unfold frzM; rw [hf]) h
theorem noExc_ok {α : Type} {m : M α} {st st' : MSt} {a : α} (e : m st = .ok a st') : noExc m st = .ok a st' := by unfold noExc; rw [e]
theorem noExc_at {α : Type} {m : M α} {st : MSt} (h : noExc m st ≠ .bad) : ∃ a st', m st = .ok a st' := by
 cases e : m st with
 | ok a st' => exact ⟨a, st', rfl⟩
 | bad => exact absurd (by unfold noExc; rw [e]) h
 | exc => exact absurd (by unfold noExc; rw [e]) h
inductive CompW (m : M MV) (G : MV → M MV) (st : MSt) (iv : MV) (st1 : MSt) : Prop
 | mk (l : List D) (st2 : MSt) (total : List MV) (fin : MSt) (hf : frz 6 iv st1 = some (.lst l, st2)) (hg : gather G (l.map .d) st2 = .ok total fin) (hc : total.length ≤ cap) (e : compM m G st = mkList total fin)
theorem compM_at {m : M MV} {G : MV → M MV} {st st1 : MSt} {iv : MV} (h : m st = .ok iv st1) (hb : compM m G st ≠ .bad) : CompW m G st iv st1 := by
 have e1 : compM m G st = _ := bind_ok h
 rw [e1] at hb
 cases frzM_at fun q => hb (bind_bad q) with | mk l st2 hf e2 =>
 have e2 := bind_ok (l := fun l => M.bind (noExc (gather G (l.map .d))) mkList) e2
 rw [e2] at hb
 refine (noExc_at fun q => hb (bind_bad q)).elim fun total z => z.elim fun fin hg => ?_
 have e3 := bind_ok (l := mkList) (noExc_ok hg)
 rw [e3] at hb
 exact ⟨l, st2, total, fin, hf, hg, Classical.byContradiction fun q => hb (mkList_big q _), e1.trans (e2.trans e3)⟩
structure New3 (h0 h1 : Heap) (I ad : Nat) (mm : Str → Option Value) : Prop where
 old : ∀ b o, h0.get? b = some o → h1.get? b = some o
 own : Own3 I ad 0 #[] 0 mm h1
 none : ∀ b, yy I b → h0.get? b = none
theorem new3 {h0 h1 : Heap} {I ad : Nat} {mm : Str → Option Value} {fr : Obj} (hI : h0.objs.size = I) (hsb : Heap.SameBut (I + 2) (((h0.push { cls := .type "list_iterator", data := .fields #[.ref ad, .int 0 0] }).push (seqO "list" #[] 0)).push fr) h1) (hns : h1.Ns (I + 2) mm) : New3 h0 h1 I ad mm := by
 subst hI
 have z1 : ∀ o, (h0.push o).objs.size = h0.objs.size + 1 := fun o => Heap.size_push _ _
 have ne : ∀ b, b < h0.objs.size + 2 → b ≠ h0.objs.size + 2 := fun b h => nnl h
 refine ⟨fun b o e => (hsb.2 b (ne b (Nat.lt_add_right 2 (Heap.lt_size e)))).trans (Heap.get?_push_of_some _ (Heap.get?_push_of_some _ (Heap.get?_push_of_some _ e))), ⟨⟨_, (hsb.2 _ (n02 _)).trans (Heap.get?_push_of_some _ (Heap.get?_push_of_some _ (Heap.get?_push_size _ rfl))), rfl, rfl⟩, ?_, hns⟩, fun b h => Heap.get?_none_of_le (h.elim (fun h => noe h.symm) fun h => h.elim (fun h => h ▸ Nat.le_succ _) fun h => h ▸ nla _ _)⟩
 rw [hsb.2 _ (n12 _), ← z1]
 exact Heap.get?_push_of_some _ (Heap.get?_push_size _ rfl)
theorem comp_gen {x : Str} (ok : CompOk sc cs x) (Z : Pl g n u sc f le c s) {elt iter : Expr} {px pos ppos : Pos} (hs : ∀ v, foldedSetIterable iter f.env v = pure v) {m : M MV} (hI : W g f c s (eval iter f.env) (m c.st) MR) {E : LEnv → M MV} (hE : EltOk g f cs n u elt E)
  (hb : compM m (fun v => E (compEnv cs le x v)) c.st ≠ .bad) {use : Option (Value → Sem Unit)} {Q : Value → Shared → Prop} {Ex : Value → Shared → Prop} (hexc : ∀ e s1, m c.st = .exc → Exc g f.envs c e s1 → Ex e s1)
  (hend : ∀ total fin, compM m (fun v => E (compEnv cs le x v)) c.st = mkList total fin → total.length ≤ cap → ∀ c2 c3 cj I s' h' vs k mm, Adv c c2 → FrSt g sc f le c2 → Enter (yy I) c2 c3 → Done g I total fin c3 cj s' h' vs k mm →
   compPost (model g.prog g.w) f.A Ex use Q (.ref (I + 1)) (I + 2) (.ok .next) { s' with heap := h' }) :
  wpAny (model g.prog g.w) f.A (comprehension (.ListComp elt [⟨.Name x px, iter, [], 0⟩] cs pos) cs f.env ppos (newList []) false (eval iter f.env) use) Q Ex s :=
 (closureFor_of (env := f.env) (sc := cs) fun p hp e => Z.Y.cl p.1 (ok.free p hp e)).elim fun cl q => by
 refine wpAny_comprehension_free (use := use) rfl hs q.1 ok.kind ok.loc (wpAny_mono (hI fun q => hb (bind_bad q)) (fun iv s1 p => ?_) fun e s1 h => hexc e s1 h.1 h.2)
 cases p with | mk a c1 e X1 A1 r1 =>
 cases compM_at e hb with | mk l st2 total fin hf hg hc e2 =>
 have F1 := frz_sound 6 X1 r1 hf
 have Y2 := X1.less F1.L
 have A2 := A1.trans Y2.2
 cases F1.r with | mk ad items k e3 g3 n3 r3 =>
 cases e3
 refine wpAny_pyIter_list (items := items) ⟨_, Y2.1.heap ▸ g3, rfl, _, rfl⟩ (wpAny_newObj_type (wpAny_newFunctionEnv ok.cell (fun _ h => absurd h List.not_mem_nil) (fun h1 hns hsb => ?_) ok.kind))
 dsimp only [List.length_nil] at hns hsb ⊢
 have z1 : ∀ o o' : Obj, ((s1.heap.push o).push o').objs.size = s1.heap.objs.size + 2 := fun o o' => (Heap.size_push _ _).trans (congrArg (· + 1) (Heap.size_push _ _))
 rw [z1] at hns hsb ⊢
 rw [Heap.size_push]
 have N := new3 (ad := ad) rfl hsb hns
 generalize s1.heap.objs.size = I at N ⊢
 rw [Y2.1.heap] at N
 have En := Y2.1.enter (y := yy I) (fun a => (c1.put st2).w a ∧ ¬ yy I a) (fun a q => ⟨fun z => z.1, fun z => ⟨z, fun hb => (Y2.1.xlt a q).elim fun o eo => by rw [N.none a hb] at eo; cases eo⟩⟩) (s' := { s1 with heap := h1, toks := s1.toks + 0 }) (h' := h1) N.old
  (fun b hb => ⟨N.none b hb, hb.elim (fun q => q ▸ N.own.it.imp fun _ z => z.1) fun q => q.elim (fun q => q ▸ ⟨_, N.own.ls⟩) fun q => q ▸ (Ns_there N.own.ns).imp fun _ z => z.1⟩) rfl rfl rfl (nlr _)
 have F2 : FrSt g sc f le (c1.put st2) := Z.F.adv A2
 have K : CompC g f sc cs n u le x cl I ((c1.put st2).ent h1 (yy I) fun a => (c1.put st2).w a ∧ ¬ yy I a) := ⟨Z.Y, ok, q.2, F2.enter En.2 fun b hb q => q.2 hb, fun b hb => .inr hb, fun b hb q => q.2 hb, En.2.old _ F2.inx, fun e he a ha => En.2.old _ (F2.frO e he a ha).2.1⟩
 have fin2 := comp_loop (iter := iter) (px := px) (pos := pos) K hE (items := items) (nn := k) (k := (l.map MV.d).length) (En.2.up.k ad _ g3 n3).2 (En.2.up.k ad _ g3 n3).1 hc
  ⟨0, l.map .d, _, [], #[], 0, _, total, rfl, En.1, .refl _, N.own, MRs.up En.2.up _ _ (MRs.of_d r3), .nil, hg, rfl⟩ fun cj s' h' vs m mm D => hend total fin e2 hc (c1.put st2) _ cj I s' h' vs m mm A2 F2 En.2 D
 exact codeAny_compStart_list fin2 (wpAny_pyIter_listiter N.own.it fin2)
theorem W.comp {x : Str} (ok : CompOk sc cs x) (Z : Pl g n u sc f le c s) {elt iter : Expr} {px pos : Pos} (hs : ∀ v, foldedSetIterable iter f.env v = pure v) {m : M MV} (hI : W g f c s (eval iter f.env) (m c.st) MR) {E : LEnv → M MV} (hE : EltOk g f cs n u elt E) :
  W g f c s (eval (.ListComp elt [⟨.Name x px, iter, [], 0⟩] cs pos) f.env) (compM m (fun v => E (compEnv cs le x v)) c.st) MR := fun hb => by
 rw [eval_ListComp]
 refine comp_gen (use := none) ok Z hs hI hE hb (fun e s1 q x => ⟨bind_exc q, x⟩) fun total fin hr hcap c2 c3 cj I s' h' vs k mm A F2 En D => ⟨mm, D.ns, fun h'' same => ?_⟩
 have L := D.X.leaveG (z := fun _ => False) (x := c2.x) (w := c2.w) (s' := { s' with heap := h'' }) (h' := h'') En D.A (fun b o eb nb => (same.2 b fun q => nb (.inr (.inr q))).trans (D.k b o (fun q => nb (.inl q)) (D.X.heap ▸ eb))) rfl rfl rfl (nlr _) (fun _ => .inl) (fun _ => False.elim) (fun _ => False.elim) (D := I + 1) (.inr (.inl rfl)) id ((same.2 _ (n12 I)).trans D.ls) D.r
 refine ⟨.ref cj.st.next, _, ?_, L.1, A.trans (L.2.1.adv rfl rfl), L.2.2⟩
 rw [hr, mkList_ok hcap, ← D.e]
 rfl
end
structure CallOk (g : G) (cfg : Cfg) (n u : Nat) : Prop where
 T : cfg.T = g.T
 call : ∀ {sc : Scope} {f : Fm} {le : LEnv} {c : Cx} {s : Shared} {a : Nat} {args : List MV} {vals : List Value}, Pl g n u sc f le c s → MRs c args vals → (g.T.fn a).isSome = true → W g f c s (PySem.call (.ref a) vals []) (cfg.call a args c.st) MR
 new : ∀ {sc : Scope} {f : Fm} {le : LEnv} {c : Cx} {s : Shared} {a : Nat} {ci : ClsInfo} {args : List MV} {vals : List Value}, Pl g n u sc f le c s → MRs c args vals → g.T.fn a = none → g.T.cls a = some ci → W g f c s (PySem.call (.ref a) vals []) (newInst cfg a ci args c.st) MR
 keepF : ∀ a, (g.T.fn a).isSome = true → keepIn g.K (.ref a) = true
 keepC : ∀ a, (g.T.cls a).isSome = true → keepIn g.K (.ref a) = true
def EvOk (g : G) (cfg : Cfg) (n u : Nat) (e : Expr) : Prop := ∀ ⦃sc : Scope⦄ ⦃f : Fm⦄ ⦃le : LEnv⦄ ⦃c : Cx⦄ ⦃s : Shared⦄, Pl g n u sc f le c s → W g f c s (eval e f.env) (ev cfg e sc le c.st) MR
def EqB (_ : Cx) (a b : Bool) : Prop := a = b
def TstOk (g : G) (cfg : Cfg) (n u : Nat) (e : Expr) : Prop := ∀ ⦃sc : Scope⦄ ⦃f : Fm⦄ ⦃le : LEnv⦄ ⦃c : Cx⦄ ⦃s : Shared⦄, Pl g n u sc f le c s → W g f c s (isTrue e f.env (eval e f.env)) (tst cfg e sc le c.st) EqB
section
variable {g : G} {cfg : Cfg} {n u : Nat} {f : Fm} {c : Cx} {s : Shared} {sc : Scope} {le : LEnv}
theorem truth?_at {v : MV} {b : Bool} {w : Value} (e : truth? v = some b) (r : MR c v w) : (w = .none ∧ b = false) ∨ w = .bool b := by
 cases v with
 | d x =>
  cases x with
  | none => cases e; exact .inl ⟨r, rfl⟩
  | bool => cases e; exact .inr r
  | _ => exact nos e
 | _ => exact nos e
theorem W.truth (X : St g c s) {v : MV} {w : Value} (r : MR c v w) : W g f c s (truthy w) (Mine.truth v c.st) EqB := by
 unfold Mine.truth M.opt
 cases e : truth? v with
 | none => exact .bad
 | some b =>
  exact (truth?_at e r).elim (fun q => by cases q.1; cases q.2; exact W.ret X rfl) fun q => by cases q; exact W.ret X rfl
theorem W.cons {t : Sem Value} {m : M MV} {r : List (Bool × Sem Value)} {l : M (List MV)} (h : W g f c s t (m c.st) MR)
  (h2 : ∀ c1 s1, St g c1 s1 → Adv c c1 → W g f c1 s1 (spliced r) (l c1.st) MRs) : W g f c s (spliced ((false, t) :: r)) (M.bind m (fun v => M.bind l fun vs => M.pure (v :: vs)) c.st) MRs := fun hb =>
 spliced_cons (wpAny_mono (h fun q => hb (bind_bad q)) (fun v s1 p => by
  cases p with | mk a c1 e X A k =>
  rw [bind_ok e] at hb ⊢
  refine wpAny_mono (h2 c1 s1 X A fun q => hb (bind_bad q)) (fun vs s2 p => ?_) fun _ _ x => ⟨bind_exc x.1, x.2.back A⟩
  cases p with | mk b c2 e2 X2 A2 k2 => exact ⟨_, c2, bind_ok e2, X2, A.trans A2, .cons (k.mono A2 (noP _)) k2⟩) fun _ _ x => ⟨bind_exc x.1, x.2⟩)
theorem evs_of : ∀ {es : List Expr}, (∀ e ∈ es, EvOk g cfg n u e) → ∀ {c : Cx} {s : Shared}, Pl g n u sc f le c s → W g f c s (spliced (es.map fun e => (false, eval e f.env))) (evs cfg es sc le c.st) MRs
 | [], _, _, _, Z => W.ret Z.X .nil
 | _ :: _, h, _, _, Z => W.cons (h _ (List.mem_cons_self ..) Z) fun _ _ X1 A1 => evs_of (fun e he => h e (List.mem_cons_of_mem _ he)) (Z.adv X1 A1)
theorem W.operate {vs : List Value} {t : Sem Value} {k : O MV} (h : W g f c s t k MR) : W g f c s (PySem.operate vs t) k MR := fun hb => wpAny_operate' (h hb)
theorem tsts_of {op : BoolOp} : ∀ {es : List Expr}, (∀ e ∈ es, TstOk g cfg n u e) → ∀ {c : Cx} {s : Shared}, Pl g n u sc f le c s → W g f c s (allTrue op es f.env) (tsts cfg op es sc le c.st) EqB
 | [], _, _, _, Z => by cases op <;> exact W.ret Z.X rfl
 | x :: r, h, c, s, Z => W.seq (l := fun t => if stopAt op t then M.pure t else tsts cfg op r sc le) (h _ (List.mem_cons_self ..) Z) fun a b c1 s1 X1 A1 q => by
  cases q
  have k := tsts_of (op := op) (fun e he => h e (List.mem_cons_of_mem _ he)) (Z.adv X1 A1)
  cases op <;> cases a
  ·exact W.ret X1 rfl
  ·exact k
  ·exact k
  ·exact W.ret X1 rfl
theorem evBool_of {op : BoolOp} {pos : Pos} : ∀ {es : List Expr}, (∀ e ∈ es, EvOk g cfg n u e) → ∀ {c : Cx} {s : Shared}, Pl g n u sc f le c s → W g f c s (boolOp pos op (evalEach es f.env)) (evBool cfg op es sc le c.st) MR
 | [], _, _, _, _ => W.bad
 | [x], h, _, _, Z => h x (List.mem_cons_self ..) Z
 | x :: y :: r, h, c, s, Z => W.seq (l := fun v => M.bind (Mine.truth v) fun t => if stopAt op t then M.pure v else evBool cfg op (y :: r) sc le) (h _ (List.mem_cons_self ..) Z) fun a v c1 s1 X1 A1 ra =>
  W.standAt (W.seq (W.holding (W.truth X1 ra)) fun t b c2 s2 X2 A2 q => by
  cases q
  have k := evBool_of (op := op) (pos := pos) (fun e he => h e (List.mem_cons_of_mem _ he)) (Z.adv X2 (A1.trans A2))
  cases op <;> cases t
  ·exact W.ret X2 (ra.mono A2 (noP _))
  ·exact k
  ·exact k
  ·exact W.ret X2 (ra.mono A2 (noP _)))
end
section
variable {g : G} {mg mb : Str → Option Value} {cfg : Cfg} {n u : Nat} {f : Fm} {c : Cx} {s : Shared} {sc : Scope} {le : LEnv}
theorem W.newListT (X : St g c s) {l : List MV} {vs : List Value} (r : MRs c l vs) : W g f c s (newList vs) (mkList l c.st) MR := W.list X r fun Q E hz q => wpAny_newList q hz
theorem W.newTupT (X : St g c s) {l : List MV} {vs : List Value} (r : MRs c l vs) (hl : l.length < 29) : W g f c s (newTuple vs) (M.pure (Mine.mkTup l) c.st) MR :=
 W.tup X r fun Q E k => wpAny_newTuple (k s.heap s.toks fun _ _ h => h) (r.length ▸ cap_line (nlt (nol hl) (by decide)))
theorem ok_of_bind {α β : Type} {m : M α} {k : α → M β} {st st' : MSt} {b : β} (h : M.bind m k st = .ok b st') : ∃ a s1, m st = .ok a s1 ∧ k a s1 = .ok b st' := by
 cases e : m st with
 | bad => exact nomatch (bind_bad e).symm.trans h
 | exc => exact nomatch (bind_exc e).symm.trans h
 | ok a s1 => exact ⟨a, s1, rfl, (bind_ok e).symm.trans h⟩
theorem evs_len : ∀ {es : List Expr} {st st' : MSt} {vs : List MV}, evs cfg es sc le st = .ok vs st' → vs.length = es.length
 | [], _, _, _, h => by cases h; rfl
 | _ :: _, _, _, _, h => (ok_of_bind h).elim fun _ z => z.elim fun _ z => (ok_of_bind z.2).elim fun _ z => z.elim fun _ z => by
  cases z.2
  exact congrArg (· + 1) (evs_len z.1)
theorem W.callV (H : GOk g mg mb) (hk : TK g) (C : CallOk g cfg n u) (Z : Pl g n u sc f le c s) {fv : MV} {fval : Value} (rf : MR c fv fval) {pos : Pos} {args : List Expr} (hA : ∀ e ∈ args, EvOk g cfg n u e) :
  W g f c s (PySem.callWith pos fval [] (args.map fun e => (false, eval e f.env)) []) (M.bind (evs cfg args sc le) (fun vs => callVal cfg fv vs) c.st) MR := by
 refine W.callWith plain_any (evs_of hA Z) fun a v c1 s1 X1 A1 ra hb => ?_
 have Z1 := Z.adv X1 A1
 have kin := X1.kin H
 cases fv with
 | d x =>
  cases x with
  | glob ad =>
   cases (rf : fval = .ref ad)
   change Mine.callGlob cfg ad a c1.st ≠ .bad at hb
   show _ ∧ W g f c1 s1 _ (Mine.callGlob cfg ad a c1.st) MR
   unfold Mine.callGlob at hb ⊢
   rw [C.T] at hb ⊢
   cases hf : g.T.fn ad with
   | some mf => rw [hf] at hb; exact ⟨keeps_K (C.keepF ad (by rw [hf]; rfl)) _ kin, C.call Z1 ra (by rw [hf]; rfl)⟩
   | none =>
    cases hc : g.T.cls ad with
    | some ci => exact ⟨keeps_K (C.keepC ad (by rw [hc]; rfl)) _ kin, C.new Z1 ra hf hc⟩
    | none => rw [hf, hc] at hb; exact absurd rfl hb
  | bi nm =>
   cases (rf : fval = .builtin nm)
   exact ⟨keep_builtin, W.eqv (W.callBi kin hk X1 Z.Y.hd nm ra) (congrArg (fun T => Mine.callBi T nm a c1.st) C.T.symm)⟩
  | typ nm => cases (rf : fval = .type nm); exact ⟨keep_type, W.callTyp X1 nm ra⟩
  | _ => exact absurd rfl hb
 | _ => exact absurd rfl hb
inductive MethR (g : G) (cfg : Cfg) (f : Fm) (c : Cx) (s : Shared) (oval : Value) (name : Str) (m : Meth) : Prop
 | mk (fv : Value) (first : List Value) (h1 : ∀ (Q : Value × List Value → Shared → Prop) (E : Value → Shared → Prop) (pl : Sem Bool), Q (fv, first) s → wpAny (model g.prog g.w) f.A (getMethod oval name pl) Q E s)
  (h2 : ∀ a v c1 s1, St g c1 s1 → Adv c c1 → MRs c1 a v → KeepAt (model g.prog g.w) s1.heap fv ∧ W g f c1 s1 (PySem.call fv (first ++ v) []) (runMeth cfg m a c1.st) MR)
theorem meth_at (H : GOk g mg mb) (hk : TK g) (C : CallOk g cfg n u) (Z : Pl g n u sc f le c s) {ov : MV} {oval : Value} (ro : MR c ov oval) {name : Str} {m : Meth} (hm : methOf g.T ov name c.st = some m) : MethR g cfg f c s oval name m := by
 unfold methOf at hm
 cases es : ov.str? with
 | some l =>
  rw [es] at hm
  refine (mes hm).elim fun sm h => (ro.str es).elim fun t q => ?_
  cases h.2; cases q.1
  exact ⟨.builtin (smId sm), [.str ⟨l.toArray⟩ t], fun Q E pl q => sm_method h.1 q, fun a v c1 s1 X1 A1 ra => ⟨keep_builtin, W.strMeth X1 sm (A1.n _ _ q.2) ra⟩⟩
 | none =>
  rw [es] at hm
  dsimp only at hm
  cases ei : instOf ov c.st with
  | some p =>
   rw [ei] at hm
   refine (bes hm).elim fun ci h => ?_
   have h2 := h.2
   unfold ownMeth at h2
   by_cases q : (p.2.lookup name).isSome = true
   ·rw [if_pos q] at h2; exact nos h2
   ·rw [if_neg q] at h2
    refine (mes h2).elim fun fn z => ?_
    cases z.2
    have hs : (g.T.fn fn).isSome = true := hk.methF p.1 ci name fn h.1 z.1
    exact ⟨.ref fn, [oval], fun Q E pl k => method_at (Z.X.kin H) hk.cls Z.X ro ei h.1 z.1 (Option.not_isSome_iff_eq_none.mp q) k, fun a v c1 s1 X1 A1 ra => ⟨keeps_K (C.keepF fn hs) _ (X1.kin H), C.call (Z.adv X1 A1) (.cons (ro.mono A1 (noP c)) ra) hs⟩⟩
  | none =>
   rw [ei] at hm
   dsimp only at hm
   by_cases hn : name = so "append"
   ·rw [if_pos hn] at hm
    subst hn
    cases ov with
    | ref i =>
     dsimp only [appOf] at hm
     cases hl : c.st.objs i with
     | list l =>
      rw [hl] at hm
      cases hm
      have O := Z.X.at_ i
      rw [hl] at O
      cases O with | mk vs k e1 r1 =>
      cases ro.2
      have i1 : IsL s.heap (c.ρ i).1 vs k := Z.X.heap ▸ e1
      refine ⟨.builtin "list.append", [.ref (c.ρ i).1], fun Q E pl q => getMethod_builtin ⟨_, i1, rfl⟩ PySem.F.plainAttrs_list PySem.F.slot_list_append PySem.F.type_list_append (fun a e => by cases e; exact ⟨_, i1, rfl⟩) q, fun a v c1 s1 X1 A1 ra => ⟨keep_builtin, ?_⟩⟩
      have lt := lll ro.1 A1.next
      exact on1_W (F := appM i) (tm := fun v => call (.builtin "list.append") (.ref (c.ρ i).1 :: v) []) ra fun a va r => A1.rho i ro.1 ▸ W.append X1 lt r
     | _ => rw [hl] at hm; exact nos hm
    | _ => exact nos hm
   ·rw [if_neg hn] at hm; exact nos hm
theorem W.callM (H : GOk g mg mb) (hk : TK g) (C : CallOk g cfg n u) (Z : Pl g n u sc f le c s) {ov : MV} {oval : Value} (ro : MR c ov oval) {o : Expr} {name : Str} {apos pos : Pos} (hpos : apos.endLine = pos.line)
  {args : List Expr} (hp : plainArgs args = true) (hA : ∀ e ∈ args, EvOk g cfg n u e) :
  W g f c s (methodCall o name apos pos f.env oval (args.length + 0) (args.map fun e => (false, eval e f.env)) []) (M.bind (Mine.optM (methOf cfg.T ov name)) (fun m => M.bind (evs cfg args sc le) (runMeth cfg m)) c.st) MR :=
 W.optM fun m hm => by
  rw [C.T] at hm
  cases meth_at H hk C Z ro hm with | mk fv first h1 h2 =>
  intro hb
  unfold methodCall
  rw [form_few (plain_len hp)]
  unfold calleeOf
  rw [if_pos rfl, methodCallPos_same hpos]
  exact wpAny_bind (wpAny_holding (h1 _ _ _ (wpAny_bind (wpAny_pure (W.callWith (first := first) plain_any (evs_of hA Z) (fun a v c1 s1 X1 A1 ra _ => h2 a v c1 s1 X1 A1 ra) hb)))))
end
section
variable {g : G} {mg mb : Str → Option Value} {cfg : Cfg} {n u : Nat} {f : Fm} {c : Cx} {s : Shared} {sc : Scope} {le : LEnv}
theorem W2.toW {α β γ : Type} {m : Sem α} {k : α → Sem γ} {r : O β} {R : Cx → β → γ → Prop} (h : W2 g f c s m k r R) : W g f c s (m >>= k) r R := fun hb => wpAny_bind (h hb)
theorem W2.holding {α β γ : Type} {vs : List Value} {m : Sem α} {k : α → Sem γ} {r : O β} {R : Cx → β → γ → Prop} (h : W2 g f c s m k r R) : W2 g f c s (PySem.holding vs m) k r R := fun hb => wpAny_holding (h hb)
theorem W2.seq {α β γ δ ε : Type} {t : Sem α} {m : M β} {R : Cx → β → α → Prop} {t2 : α → Sem γ} {k : γ → Sem ε} {l : β → M δ} {R2 : Cx → δ → ε → Prop} (h : W g f c s t (m c.st) R)
  (h2 : ∀ a v c1 s1, St g c1 s1 → Adv c c1 → R c1 a v → W2 g f c1 s1 (t2 v) k (l a c1.st) R2) : W2 g f c s (t >>= t2) k (M.bind m l c.st) R2 := fun hb =>
 wpAny_bind (wpAny_mono (h fun q => hb (bind_bad q)) (fun v s1 p => by
  cases p with | mk a c1 e X A q =>
  rw [bind_ok e] at hb ⊢
  exact wpAny_mono (h2 a v c1 s1 X A q hb) (fun _ _ z => wpAny_mono z (fun _ _ p => p.back A) fun _ _ x => ⟨x.1, x.2.back A⟩) fun _ _ x => ⟨x.1, x.2.back A⟩) fun _ _ x => ⟨bind_exc x.1, x.2⟩)
theorem W2.skip {α β γ ε : Type} {v : α} {t2 : α → Sem γ} {k : γ → Sem ε} {r : O β} {R : Cx → β → ε → Prop} {vs : List Value} (h : W2 g f c s (t2 v) k r R) : W2 g f c s (PySem.holding vs (pure v) >>= t2) k r R := fun hb => wpAny_bind (wpAny_holding (wpAny_pure (h hb)))
theorem evOpt_of {o : Option Expr} (h : ∀ e, o = some e → EvOk g cfg n u e) (Z : Pl g n u sc f le c s) : W g f c s (valueOrNone (evalOpt o f.env)) (evOpt cfg o sc le c.st) OptR := by
 cases o with
 | none => exact W.ret Z.X .none
 | some e =>
  intro hb
  have hb : M.bind (ev cfg e sc le) (fun v => match v with | .d x => M.pure (some x) | _ => M.bad) c.st ≠ .bad := hb
  show wpAny _ _ (eval e f.env) (Post _ g c (M.bind (ev cfg e sc le) (fun v => match v with | .d x => M.pure (some x) | _ => M.bad) c.st) OptR) _ s
  refine wpAny_mono (h e rfl Z fun q => hb (bind_bad q)) (fun v s1 p => ?_) fun _ _ x => ⟨bind_exc x.1, x.2⟩
  cases p with | mk a c1 e1 X1 A1 ra =>
  rw [bind_ok e1] at hb
  cases a with
  | d x => exact ⟨_, c1, bind_ok e1, X1, A1, .some x v ra⟩
  | _ => exact absurd rfl hb
theorem E.bin {l r : Expr} {op : Operator} {pos : Pos} (hl : EvOk g cfg n u l) (hr : EvOk g cfg n u r) : EvOk g cfg n u (.BinOp l op r pos) := fun _ _ _ _ _ Z =>
 W.seq (hl Z) fun _ _ _ _ X1 A1 ra => W.seq (W.holding (hr (Z.adv X1 A1))) fun _ _ _ _ X2 A2 rb => W.standAt (W.operate (W.binop X2 op (ra.mono A2 (noP _)) rb Z.Y.hd))
theorem E.not {x : Expr} {pos : Pos} (hx : EvOk g cfg n u x) : EvOk g cfg n u (.UnaryOp .Not x pos) := fun sc f le c s Z => by
 refine W.seq (hx Z) fun a v c1 s1 X1 _ ra => W.standAt (W.holding ?_)
 show W g f c1 s1 (PySem.holding [v] (truthy v >>= fun t => pure (Value.bool !t))) _ MR
 exact W.holding (W.seq (W.truth X1 ra) fun _ _ _ _ X2 _ q => by cases q; exact W.ret X2 rfl)
theorem E.neg {x : Expr} {pos : Pos} (hx : EvOk g cfg n u x) : EvOk g cfg n u (.UnaryOp .USub x pos) := fun sc f le c s Z => by
 refine W.seq (l := fun v : MV => (M.opt (v.int?.map fun i => MV.d (.int (-i))) : M MV)) (hx Z) fun a v c1 s1 X1 _ ra => W.standAt (W.holding ?_)
 cases e : a.int? with
 | none => exact W.bad
 | some i => exact (ra.int e).elim fun t q => by cases q; exact W.newInt X1 fun Q E k => neg_int (k _ _)
theorem E.ite {t a b : Expr} {pos : Pos} (ht : TstOk g cfg n u t) (ha : EvOk g cfg n u a) (hb : EvOk g cfg n u b) : EvOk g cfg n u (.IfExp t a b pos) := fun sc f le c s Z =>
 W.seq (l := fun x => if x = true then ev cfg a sc le else ev cfg b sc le) (ht Z) fun x _ _ _ X1 A1 q => by
  cases q
  cases x
  ·exact hb (Z.adv X1 A1)
  ·exact ha (Z.adv X1 A1)
theorem E.list {es : List Expr} {pos : Pos} (h : ∀ e ∈ es, EvOk g cfg n u e) : EvOk g cfg n u (.List es pos) := fun sc f le c s Z =>
 W.ite (m := M.bind (evs cfg es sc le) mkList) fun hp => by
  rw [arm_eval_List, backTo_plain (plain_star hp)]
  exact W.standAt (W.seq (evs_of h Z) fun a v c1 s1 X1 A1 r => W.newListT X1 r)
theorem E.tup {es : List Expr} {k : Nat} {pos : Pos} (h : ∀ e ∈ es, EvOk g cfg n u e) : EvOk g cfg n u (.Tuple es k pos) := fun sc f le c s Z =>
 W.ite (m := M.bind (evs cfg es sc le) fun vs => M.pure (mkTup vs)) fun hp => by
  rw [arm_eval_Tuple, backTo_plain (plain_star hp)]
  have h2 : W g f c s (spliced (es.map fun e => (false, eval e f.env))) (evs cfg es sc le c.st) (fun c a v => MRs c a v ∧ a.length < 29) := fun hb => wpAny_mono (evs_of h Z hb) (fun v s' p => by
   cases p with | mk a c' e X A r => exact ⟨a, c', e, X, A, r, (evs_len e).symm ▸ plain_len hp⟩) fun _ _ x => x
  exact W.standAt (W.seq h2 fun a v c1 s1 X1 A1 r => W.newTupT X1 r.1 r.2)
theorem E.attr {v : Expr} {attr : Str} {pos : Pos} (H : GOk g mg mb) (hk : TK g) (C : CallOk g cfg n u) (hv : EvOk g cfg n u v) : EvOk g cfg n u (.Attribute v attr pos) := fun sc f le c s Z =>
 W.ite (m := M.bind (ev cfg v sc le) fun o => optM (getField cfg.T o attr)) fun hp => by
  rw [arm_eval_Attribute, base_plain hp]
  refine W.seq (hv Z) fun a o c1 s1 X1 A1 ra => W.standAt fun hb => ?_
  rw [C.T] at hb ⊢
  cases hq : getField g.T a attr c1.st with
  | none => exact absurd (by unfold Mine.optM; rw [hq]) hb
  | some x =>
   have e : Mine.optM (getField g.T a attr) c1.st = .ok x c1.st := by unfold Mine.optM; rw [hq]
   rw [e]
   exact wpAny_bind (wpAny_holding (wpAny_mono (W.attr (X1.kin H) hk.cls X1 ra hq nofun) (fun _ _ p => wpAny_bind (wpAny_letTemporaryGo (wpAny_pure p))) fun _ _ x => x))
theorem E.sub {v i : Expr} {pos : Pos} (hv : EvOk g cfg n u v) (hi : EvOk g cfg n u i) (e : ∀ sc le, ev cfg (.Subscript v i pos) sc le = M.bind (ev cfg v sc le) fun o => M.bind (ev cfg i sc le) fun k => getItem o k) : EvOk g cfg n u (.Subscript v i pos) := fun sc f le c s Z => by
 rw [e]
 exact W.seq (hv Z) fun _ _ _ _ X1 A1 ra => W.seq (W.holding (hi (Z.adv X1 A1))) fun _ _ _ _ X2 A2 rb => W.standAt (W.item X2 (ra.mono A2 (noP _)) rb)
theorem E.slice {v : Expr} {lo hi : Option Expr} {p pos : Pos} (hv : EvOk g cfg n u v) (h1 : ∀ e, lo = some e → EvOk g cfg n u e) (h2 : ∀ e, hi = some e → EvOk g cfg n u e) : EvOk g cfg n u (.Subscript v (.Slice lo hi none p) pos) := fun sc f le c s Z =>
 W.seq (l := fun o => M.bind (evOpt cfg lo sc le) fun l => M.bind (evOpt cfg hi sc le) fun h => getSlice o l h) (hv Z) fun a o c1 s1 X1 A1 ra => by
  have Z1 := Z.adv X1 A1
  refine W2.toW (W2.holding (W2.seq (evOpt_of h1 Z1) fun l vl c2 s2 X2 A2 rl => W2.seq (W.holding (evOpt_of h2 (Z1.adv X2 A2))) fun h vh c3 s3 X3 A3 rh => W2.skip ?_))
  have rl : OptR c3 l vl := by
   cases rl with
   | none => exact .none
   | some _ _ r => exact .some _ _ (r.mono A3 (noP _))
  exact fun hb => wpAny_mono (W.slice X3 (ra.mono (A2.trans A3) (noP _)) rl rh hb) (fun _ _ z => wpAny_bind (wpAny_standAt z)) fun _ _ x => x
theorem E.call {fn : Expr} {args : List Expr} {pos : Pos} (H : GOk g mg mb) (hk : TK g) (C : CallOk g cfg n u) (hf : EvOk g cfg n u fn) (h : ∀ e ∈ args, EvOk g cfg n u e)
  (e1 : ∀ env, eval (.Call fn args [] pos) env = (eval fn env >>= fun fv => PySem.callWith pos fv [] (backTo pos (starEach args env)) (backToKw pos (keywordEach [] env))))
  (e2 : ∀ sc le, ev cfg (.Call fn args [] pos) sc le = if plainArgs args then M.bind (ev cfg fn sc le) fun fv => M.bind (evs cfg args sc le) fun vs => callVal cfg fv vs else M.bad) : EvOk g cfg n u (.Call fn args [] pos) := fun sc f le c s Z => by
 rw [e2]
 refine W.ite fun hp => ?_
 rw [e1, backTo_plain (plain_star hp)]
 exact W.seq (hf Z) fun a fv c1 s1 X1 A1 ra => W.callV H hk C (Z.adv X1 A1) ra h
theorem E.meth {o : Expr} {name : Str} {apos pos : Pos} {args : List Expr} (H : GOk g mg mb) (hk : TK g) (C : CallOk g cfg n u) (ho : EvOk g cfg n u o) (h : ∀ e ∈ args, EvOk g cfg n u e) : EvOk g cfg n u (.Call (.Attribute o name apos) args [] pos) := fun sc f le c s Z =>
 W.ite fun hp => W.ite fun hq => by
  rw [arm_eval_Call, base_plain hq.1, backTo_plain (plain_star hp)]
  exact W.seq (ho Z) fun a ov c1 s1 X1 A1 ra => W.standAt (W.callM H hk C (Z.adv X1 A1) ra hq.2 hp h)
theorem iter_bad {it : Expr} {env : Env} {st : MSt} (h : ¬ ∀ v, foldedSetIterable it env v = pure v) : ev cfg it sc le st = .bad := by
 cases it <;> first | rfl | exact absurd (fun _ => rfl) h
theorem E.comp {elt it : Expr} {x : Str} {px pos : Pos} {cs : Scope} (hit : EvOk g cfg n u it) (he : EvOk g cfg n u elt) : EvOk g cfg n u (.ListComp elt [⟨.Name x px, it, [], 0⟩] cs pos) := fun sc f le c s Z =>
 W.ite fun hc => by
  by_cases hset : ∀ v, foldedSetIterable it f.env v = pure v
  ·exact W.comp (m := ev cfg it sc le) (E := fun le => ev cfg elt cs le) (compOk_of hc.2.2) Z hset (hit Z) fun f' c' s' le' e1 e2 Y' X' F' => he ⟨Y', X', F'⟩
  ·exact W.bad' (bind_bad (iter_bad hset))
end
section
variable {g : G} {mg mb : Str → Option Value} {cfg : Cfg} {n u : Nat}
theorem T.plain {e : Expr} (h : EvOk g cfg n u e) (h1 : ∀ env t, isTrue e env t = (t >>= fun v => standAt e.pos >>= fun _ => holding [v] (truthy v))) (h2 : ∀ sc le, tst cfg e sc le = M.bind (ev cfg e sc le) Mine.truth) : EvOk g cfg n u e ∧ TstOk g cfg n u e :=
 ⟨h, fun _ _ _ _ _ Z => by
  rw [h1, h2]
  exact W.seq (h Z) fun _ _ _ _ X1 _ r => W.standAt (W.holding (W.truth X1 r))⟩
theorem T.bad {e : Expr} (h1 : ∀ sc le, ev cfg e sc le = M.bad) (h2 : ∀ sc le, tst cfg e sc le = M.bad) : EvOk g cfg n u e ∧ TstOk g cfg n u e :=
 ⟨fun _ _ _ _ _ _ => W.bad' (by rw [h1]; rfl), fun _ _ _ _ _ _ => W.bad' (by rw [h2]; rfl)⟩
theorem T.not {x : Expr} {pos : Pos} (h : TstOk g cfg n u x) : TstOk g cfg n u (.UnaryOp .Not x pos) := fun _ _ _ _ _ Z =>
 W.seq (h Z) fun _ _ _ _ X1 _ q => by cases q; exact W.ret X1 rfl
theorem W.marked {f : Fm} {c : Cx} {s : Shared} {sc : Scope} {le : LEnv} {op : CmpOp} {r : Expr} (h : W g f c s (eval r f.env) (ev cfg r sc le c.st) MR) : W g f c s (markedBehindIn op r (eval r f.env)) (ev cfg r sc le c.st) MR := by
 by_cases hm : behindInMarks op r = true
 ·refine W.bad' ?_
  cases r <;> first | rfl | exact Bool.noConfusion hm
 ·unfold markedBehindIn
  rw [Bool.eq_false_iff.mpr hm]
  exact h
theorem cline (k : Nat) (h : k ≤ 9000) : k + 20 < cLine := nll (Nat.add_le_add_right h 20) (by decide)
theorem Pl.units {sc : Scope} {f : Fm} {le : LEnv} {c : Cx} {s : Shared} (Z : Pl g n u sc f le c s) : f.A.units + 20 < cLine := cline _ (nlt (nlt (nla _ _) (nla _ _)) Z.Y.uni)
theorem bind_assoc {α β γ : Type} (m : M α) (k : α → M β) (l : β → M γ) : M.bind (M.bind m k) l = M.bind m fun a => M.bind (k a) l := funext fun st => by
 unfold M.bind
 cases m st <;> rfl
theorem W.cmpM {α : Type} {f : Fm} {c : Cx} {s : Shared} (X : St g c s) (op : CmpOp) {a a2 : MV} {va vb : Value} (ra : MR c a va) (rb : MR c a2 vb) (hu : f.A.units + 20 < cLine) {t : Sem α} {β : Type} {F : Bool → β} {R : Cx → β → α → Prop}
  (h : ∀ b, CmpG g f s op va vb b → W g f c s t (.ok (F b) c.st) R) : W g f c s t (M.bind (cmpM op a a2) (fun b => M.pure (F b)) c.st) R := by
 cases e : Mine.cmp op a a2 c.st with
 | none => exact W.bad' (bind_bad (by unfold Mine.cmpM; rw [e]))
 | some b =>
  have q : Mine.cmpM op a a2 c.st = .ok b c.st := by unfold Mine.cmpM; rw [e]
  exact W.eqv (h b (cmp_at X op ra rb hu e)) (bind_ok (l := fun b => M.pure (F b)) q).symm
theorem E.cmp {l r : Expr} {op : CmpOp} {pos : Pos} (hl : EvOk g cfg n u l) (hr : EvOk g cfg n u r) : EvOk g cfg n u (.Compare l [op] [r] pos) := fun sc f le c s Z => by
 show W g f c s _ (M.bind (M.bind (ev cfg l sc le) fun a => M.bind (ev cfg r sc le) fun b => cmpM op a b) (fun b => M.pure (.d (.bool b))) c.st) MR
 rw [bind_assoc]
 refine W.seq (hl Z) fun a v c1 s1 X1 A1 ra => ?_
 rw [bind_assoc]
 exact W.seq (W.holding (W.marked (hr (Z.adv X1 A1)))) fun b w c2 s2 X2 A2 rb => W.standAt (W.cmpM X2 op (ra.mono A2 (noP _)) rb Z.units fun b h => fun _ => wpAny_operate' (h _ _ ⟨_, c2, rfl, X2, .refl c2, rfl⟩))
theorem T.cmp {l r : Expr} {op : CmpOp} {pos : Pos} (hl : EvOk g cfg n u l) (hr : EvOk g cfg n u r) : TstOk g cfg n u (.Compare l [op] [r] pos) := fun sc f le c s Z =>
 W.seq (l := fun a => M.bind (ev cfg r sc le) fun b => cmpM op a b) (t2 := fun a => testChain pos a [op] (markedEach [op] [r] (evalEach [r] f.env))) (hl Z) fun a v c1 s1 X1 A1 ra =>
 W.seq (l := fun b => cmpM op a b) (W.holding (W.marked (hr (Z.adv X1 A1)))) fun b w c2 s2 X2 A2 rb => W.standAt (by
  have h := W.cmpM (f := f) (t := PySem.operate [v, w] (compareOp op v w) >>= fun c => holding [c] (truthy c)) (F := id) (R := EqB) X2 op (ra.mono A2 (noP _)) rb Z.units fun b h => fun _ => wpAny_bind (wpAny_operate' (h _ _ (wpAny_holding (wpAny_pure ⟨b, c2, rfl, X2, .refl c2, rfl⟩))))
  refine W.eqv h ?_
  unfold M.bind
  cases cmpM op a b c2.st <;> rfl)
theorem szC (it : Expr) (x : Str) (px : Pos) (r : List Comprehension) : sizeOf it < sizeOf ((⟨.Name x px, it, [], 0⟩ : Comprehension) :: r) := by rw [List.cons.sizeOf_spec, Comprehension.mk.sizeOf_spec]; omega
theorem szO {o : Option Expr} {e : Expr} {k : Nat} (h : sizeOf o < k - 1) (he : o = some e) : sizeOf e < k := by subst he; rw [Option.some.sizeOf_spec] at h; omega
theorem szA (o : Expr) (nm : Str) (ap : Pos) : sizeOf o < sizeOf (Expr.Attribute o nm ap) := by rw [Expr.Attribute.sizeOf_spec]; omega
set_option smartUnfolding false in
theorem tst_sub (v i : Expr) (p : Pos) (sc : Scope) (le : LEnv) : tst cfg (.Subscript v i p) sc le = M.bind (ev cfg (.Subscript v i p) sc le) Mine.truth := rfl
set_option smartUnfolding false in
theorem tst_call (f : Expr) (a : List Expr) (k : List Keyword) (p : Pos) (sc : Scope) (le : LEnv) : tst cfg (.Call f a k p) sc le = M.bind (ev cfg (.Call f a k p) sc le) Mine.truth := rfl
set_option smartUnfolding false in
theorem tst_comp (e : Expr) (gs : List Comprehension) (cs : Scope) (p : Pos) (sc : Scope) (le : LEnv) : tst cfg (.ListComp e gs cs p) sc le = M.bind (ev cfg (.ListComp e gs cs p) sc le) Mine.truth := rfl
theorem comp_shape (e : Expr) (gs : List Comprehension) (cs : Scope) (p : Pos) : (∀ sc le, ev cfg (.ListComp e gs cs p) sc le = M.bad) ∨ ∃ x px it ifs a, gs = [⟨.Name x px, it, ifs, a⟩] := by
 cases gs with
 | nil => exact .inl fun _ _ => rfl
 | cons g0 gs =>
  cases g0 with | mk t it ifs a =>
  cases gs with
  | cons => exact .inl fun _ _ => rfl
  | nil =>
   cases t with
   | Name x px => exact .inr ⟨x, px, it, ifs, a, rfl⟩
   | _ => exact .inl fun _ _ => rfl
theorem szl {a b c d k : Nat} (h : 1 + a + b + c + d < k + 1) : a < k ∧ c < k := by omega
theorem sz1 {a b c k : Nat} (h : 1 + a + b + c < k + 1) : a < k ∧ b < k := by omega
theorem sz2 {a b c d k : Nat} (h : 1 + a + b + c + d < k + 1) : a < k ∧ b < k ∧ c < k := by omega
theorem ev_all (H : GOk g mg mb) (hk : TK g) (C : CallOk g cfg n u) : ∀ (k : Nat) (e : Expr), sizeOf e < k → EvOk g cfg n u e ∧ TstOk g cfg n u e
 | 0, _, h => absurd h (Nat.not_lt_zero _)
 | k + 1, e, h => by
  have ih := ev_all H hk C k
  have all : ∀ es : List Expr, sizeOf es ≤ k → ∀ e ∈ es, EvOk g cfg n u e ∧ TstOk g cfg n u e := fun es hs e he => ih e (lll (List.sizeOf_lt_of_mem he) hs)
  cases e with
  | Constant v j p => exact T.plain (fun _ _ _ _ _ Z => W.const Z.X v j p) (fun _ _ => rfl) fun _ _ => rfl
  | Name id p => exact T.plain (fun sc f le c s Z => W.eqv (W.name H Z.Y Z.X Z.F id p) (congrArg (fun T => M.opt (evName T sc id le) c.st) C.T.symm)) (fun _ _ => rfl) fun _ _ => rfl
  | BoolOp op vs p =>
   have hs := all vs (nol (sz1 (Expr.BoolOp.sizeOf_spec op vs p ▸ h)).2)
   exact ⟨fun _ _ _ _ _ Z => evBool_of (fun e he => (hs e he).1) Z, fun _ _ _ _ _ Z => tsts_of (fun e he => (hs e he).2) Z⟩
  | BinOp l op r p =>
   have q := szl (Expr.BinOp.sizeOf_spec l op r p ▸ h)
   exact T.plain (E.bin (ih l q.1).1 (ih r q.2).1) (fun _ _ => rfl) fun _ _ => rfl
  | UnaryOp op x p =>
   have q := ih x (sz1 (Expr.UnaryOp.sizeOf_spec op x p ▸ h)).2
   cases op with
   | Not => exact ⟨E.not q.1, T.not q.2⟩
   | USub => exact T.plain (E.neg q.1) (fun _ _ => rfl) fun _ _ => rfl
   | _ => exact T.bad (fun _ _ => rfl) fun _ _ => rfl
  | IfExp t a b p =>
   have q := sz2 (Expr.IfExp.sizeOf_spec t a b p ▸ h)
   exact ⟨E.ite (ih t q.1).2 (ih a q.2.1).1 (ih b q.2.2).1, fun _ _ _ _ _ _ => W.bad⟩
  | List es p => exact T.plain (E.list fun e he => (all es (nol (sz1 (b := sizeOf p) (c := 0) (Expr.List.sizeOf_spec es p ▸ h)).1) e he).1) (fun _ _ => rfl) fun _ _ => rfl
  | Tuple es j p => exact T.plain (E.tup fun e he => (all es (nol (sz1 (Expr.Tuple.sizeOf_spec es j p ▸ h)).1) e he).1) (fun _ _ => rfl) fun _ _ => rfl
  | Compare l ops rs p =>
   have q := szl (Expr.Compare.sizeOf_spec l ops rs p ▸ h)
   cases ops with
   | nil => exact T.bad (fun _ _ => rfl) fun _ _ => rfl
   | cons op ops =>
    cases ops with
    | cons => exact T.bad (fun _ _ => rfl) fun _ _ => rfl
    | nil =>
     cases rs with
     | nil => exact T.bad (fun _ _ => rfl) fun _ _ => rfl
     | cons r rs =>
      cases rs with
      | cons => exact T.bad (fun _ _ => rfl) fun _ _ => rfl
      | nil =>
       have qr : EvOk g cfg n u r := (all [r] (nol q.2) r (.head _)).1
       exact ⟨E.cmp (ih l q.1).1 qr, T.cmp (ih l q.1).1 qr⟩
  | Attribute v a p => exact T.plain (E.attr H hk C (ih v (sz1 (Expr.Attribute.sizeOf_spec v a p ▸ h)).1).1) (fun _ _ => rfl) fun _ _ => rfl
  | Subscript v i p =>
   have q := sz1 (Expr.Subscript.sizeOf_spec v i p ▸ h)
   have hv : EvOk g cfg n u v := (ih v q.1).1
   have hi : EvOk g cfg n u i := (ih i q.2).1
   refine T.plain ?_ (fun _ _ => rfl) (tst_sub v i p)
   cases i with
   | Slice lo up st ps =>
    cases st with
    | none =>
     have z := sz2 (k := k - 1) (by rw [Nat.sub_add_cancel (nll (Nat.zero_le _) q.2)]; exact Expr.Slice.sizeOf_spec lo up none ps ▸ q.2)
     exact E.slice hv (fun e he => (ih e (szO z.1 he)).1) fun e he => (ih e (szO z.2.1 he)).1
    | some _ => exact fun _ _ _ _ _ Z => W.seq (l := fun _ => M.bad) (hv Z) fun _ _ _ _ _ _ _ => W.bad
   | _ => exact E.sub hv hi fun _ _ => rfl
  | Call f args kws p =>
   have q := szl (c := sizeOf kws) (d := sizeOf p) (a := sizeOf f) (b := sizeOf args) (Expr.Call.sizeOf_spec f args kws p ▸ h)
   have hA : ∀ e ∈ args, EvOk g cfg n u e := fun e he => (all args (nol (sz2 (Expr.Call.sizeOf_spec f args kws p ▸ h)).2.1) e he).1
   refine T.plain ?_ (fun _ _ => rfl) (tst_call f args kws p)
   cases kws with
   | cons => exact fun _ _ _ _ _ _ => W.bad
   | nil =>
    have hf : EvOk g cfg n u f := (ih f q.1).1
    cases f with
    | Attribute o nm ap => exact E.meth H hk C (ih o (Nat.lt_trans (szA o nm ap) q.1)).1 hA
    | _ => exact E.call H hk C hf hA (fun _ => rfl) fun _ _ => rfl
  | ListComp e gs cs p =>
   have q := sz2 (Expr.ListComp.sizeOf_spec e gs cs p ▸ h)
   refine T.plain ((comp_shape e gs cs p).elim (fun hb _ _ _ _ _ _ => W.bad' (by rw [hb]; rfl)) fun z => z.elim fun x z => z.elim fun px z => z.elim fun it z => z.elim fun ifs z => z.elim fun a z => ?_) (fun _ _ => rfl) (tst_comp e gs cs p)
   subst z
   intro sc f le c s Z
   refine W.ite fun hc => ?_
   have h1 := List.isEmpty_iff.mp hc.1
   have h2 := hc.2.1
   subst h1 h2
   exact W.eqv (E.comp (ih it (Nat.lt_trans (szC it x px _) q.2.1)).1 (ih e q.1).1 Z) (congrFun (if_pos hc) _)
  | _ => exact T.bad (fun _ _ => rfl) fun _ _ => rfl
theorem ev_ok (H : GOk g mg mb) (hk : TK g) (C : CallOk g cfg n u) (e : Expr) : EvOk g cfg n u e := (ev_all H hk C _ e (nls _)).1
theorem tst_ok (H : GOk g mg mb) (hk : TK g) (C : CallOk g cfg n u) (e : Expr) : TstOk g cfg n u e := (ev_all H hk C _ e (nls _)).2
end
section
variable {g : G} {mg mb : Str → Option Value} {cfg : Cfg} {n u : Nat} {f : Fm} {c : Cx} {s : Shared} {sc : Scope} {le : LEnv}
theorem LEnv.set_same (le : LEnv) (x : Str) (v : MV) : le.set x v x = some v := if_pos rfl
theorem LEnv.set_ne (le : LEnv) {x y : Str} (v : MV) (h : y ≠ x) : le.set x v y = le y := if_neg h
theorem W.up {α β : Type} {t : Sem α} {k : O β} {R : Cx → β → α → Prop} {P : Addr → Prop} (h : W g f c s t k R) : WP P g f c s t k R := fun hb =>
 wpAny_mono (h hb) (fun v s' p => by cases p with | mk a c' e X A r => exact ⟨a, c', e, X, A.toP, r⟩) fun e s' x => ⟨x.1, x.2.toP⟩
theorem WL.seqW {α β γ δ : Type} {t : Sem α} {m : M β} {R : Cx → β → α → Prop} {t2 : α → Sem γ} {l : β → M δ} {R2 : Cx → δ → γ → Prop} (hx : ∀ a, own f a → c.x a)
  (h : W g f c s t (m c.st) R) (h2 : ∀ a v c1 s1, St g c1 s1 → Adv c c1 → R c1 a v → WL g f c1 s1 (t2 v) (l a c1.st) R2) : WL g f c s (t >>= t2) (M.bind m l c.st) R2 := fun hb =>
 wpAny_bind (wpAny_mono (h fun q => hb (bind_bad q)) (fun v s1 p => by
  cases p with | mk a c1 e X A k =>
  rw [bind_ok e] at hb ⊢
  exact WP.at_ hx A.toP (h2 a v c1 s1 X A k) hb) fun _ _ x => ⟨bind_exc x.1, x.2.toP⟩)
theorem ok_inj {α : Type} {a b : α} {s t : MSt} (h : O.ok a s = .ok b t) : a = b ∧ s = t := by cases h; exact ⟨rfl, rfl⟩
def LeR (g : G) (sc : Scope) (f : Fm) {α : Type} (c : Cx) (le : LEnv) (_ : α) : Prop := FrSt g sc f le c
theorem WL.store (Z : Pl g n u sc f le c s) {x : Str} (hx : sc.names.lookup x = some .local) {mv : MV} {v : Value} (r : MR c mv v) :
  WL g f c s (bindName f.env x v) (M.pure (le.set x mv) c.st) (LeR g sc f) := fun _ => by
 cases Z.F.ns with | mk m ns rr =>
 have kO := ownX Z.F
 refine wpAny_bindName (wpAny_storeName_local (Z.Y.kl x hx) (by rw [Z.Y.loc, Z.X.heap]; exact ns) (fun h' hns same => ?_) (by rw [Z.Y.fn]; rfl))
 rw [Z.Y.loc] at hns same
 have T := Z.X.turnX (y := own f) (a := f.L) (s' := { s with heap := h', toks := s.toks + 1 }) (h' := h') rfl kO (fun b o nb eb => (same.2 b nb).trans (Z.X.heap ▸ eb)) ((Ns_there hns).imp fun _ q => q.1) rfl rfl rfl (Nat.le_succ _)
 have U := T.2.up kO
 refine ⟨_, c.he h', rfl, T.1, T.2, ⟨Z.F.toFrX.adv ((Ns_there ns).imp fun _ q => q.1) T.2 fun e _ a _ q => (show a = f.L from q) ▸ Ns_there hns, ⟨_, hns, fun z w k e => ?_⟩, fun z w k e => ?_⟩⟩
 ·by_cases q : z = x
  ·subst q
   rw [LEnv.set_same] at e
   cases e
   exact ⟨v, if_pos rfl, MR.up U mv v r⟩
  ·rw [LEnv.set_ne le mv q] at e
   exact (rr z w k e).imp fun val h => ⟨(if_neg q).trans h.1, MR.up U w val h.2⟩
 ·have q : z ≠ x := fun q => by subst q; exact k.elim (fun k => nomatch hx.symm.trans k) fun k => nomatch hx.symm.trans k
  rw [LEnv.set_ne le mv q] at e
  exact (Z.F.cel z w k e).imp fun _ h => ⟨h.1, h.2.up U⟩
theorem setItem_at {A : Around} {E : Value → Shared → Prop} {l : Addr} {items : Array Value} {m : Nat} {k : Int} {t : Tok} {v : Value} {Q : Unit → Shared → Prop} (hl : IsL s.heap l items m) (h0 : 0 ≤ k) (hfit : k < 2 ^ 63) (hj : k < items.size)
  (hQ : Q () { s with heap := s.heap.update l (Obj.mapSeq (·.setIfInBounds k.toNat v)) }) : wpAny (model g.prog g.w) A (PySem.setItem (.ref l) (.int k t) v) Q E s := by
 have hT := hl.isList.typeIs
 unfold PySem.setItem
 try with_reducible refine wpAny_holding ?_
 first | refine wpAny_bind (wpAny_pure ?_) | skip
 refine wpAny_bind (wpAny_sequenceKey hT (by decide) ?_)
 refine wpAny_bind (wpAny_callSpecial?_slot (name := so "__setitem__") hT PySem.slot_list_setitem
  (wpAny_call_entry PySem.slot_list_setitem hT PySem.entry_list_setitem ?_ (PySem.args_list_setitem _ _ _)))
 show wpAny _ _ (Builtin.List.listSubscript? (.int k t) >>= _) _ _ s
 refine wpAny_bind (wpAny_listSubscript_int (fitsIndex_of h0 hfit) ?_)
 clear hfit
 obtain ⟨j, rfl⟩ := Int.eq_ofNat_of_zero_le h0
 have hj' : j < items.size := by omega
 show wpAny _ _ ((seqItemAt l j >>= fun r => pure (r.map (j, ·))) >>= _) _ _ s
 refine wpAny_bind (wpAny_bind (wpAny_seqItemAt hl rfl (wpAny_pure ?_)))
 rw [Array.getElem?_eq_getElem hj']
 show wpAny _ _ (setSeqItemAt l j v >>= _) _ _ s
 refine wpAny_bind (wpAny_setSeqItemAt hl rfl ?_)
 first
  | exact wpAny_bind (wpAny_pure (wpAny_pure ⟨.none, rfl, wpAny_pure hQ⟩))
  | exact wpAny_pure ⟨.none, rfl, wpAny_pure hQ⟩
inductive SetI (ov iv v : MV) (st : MSt) : Prop
 | mk (i : Nat) (l : List MV) (k : Int) (e : ov = .ref i) (e2 : iv.int? = some k) (hi : st.objs i = .list l) (h0 : 0 ≤ k) (hj : k.toNat < l.length) (hc : l.length ≤ cap) (q : Mine.setItem ov iv v st = .ok () ⟨st.next, upd st.objs i (.list (l.set k.toNat v))⟩)
theorem setI {ov iv v : MV} {st : MSt} (h : Mine.setItem ov iv v st ≠ .bad) : SetI ov iv v st := by
 cases ov with
 | ref n =>
  cases hi : st.objs n with
  | list l =>
   cases h2 : iv.int? with
   | some k =>
    have e : Mine.setItem (.ref n) iv v st = if 0 ≤ k ∧ k.toNat < l.length ∧ l.length ≤ cap then .ok () ⟨st.next, upd st.objs n (.list (l.set k.toNat v))⟩ else .bad := by unfold Mine.setItem; simp only [hi, h2]
    by_cases q : 0 ≤ k ∧ k.toNat < l.length ∧ l.length ≤ cap
    ·exact ⟨n, l, k, rfl, h2, hi, q.1, q.2.1, q.2.2, e.trans (if_pos q)⟩
    ·exact absurd (e.trans (if_neg q)) h
   | none => exact absurd (by unfold Mine.setItem; simp only [hi, h2]) h
  | _ => exact absurd (by unfold Mine.setItem; simp only [hi]) h
 | _ => exact absurd rfl h
theorem W.setItem (X : St g c s) {ov iv mv : MV} {o i v : Value} (ro : MR c ov o) (ri : MR c iv i) (r : MR c mv v) : W g f c s (PySem.setItem o i v) (Mine.setItem ov iv mv c.st) (fun _ (_ : Unit) (_ : Unit) => True) := fun hb => by
 cases setI hb with | mk i l k e e2 hi h0 hj hc q =>
 subst e
 refine (ri.int e2).elim fun t z => ?_
 cases z
 cases ro.2
 have O := X.at_ i
 rw [hi] at O
 cases O with | mk vs kk e1 r1 =>
 have i1 : IsL s.heap (c.ρ i).1 vs kk := X.heap ▸ e1
 have hlen : l.length = vs.size := r1.length
 refine setItem_at i1 h0 (by have : l.length ≤ 2 ^ 20 := hc; omega) (by omega) ?_
 have g1 : (s.heap.update (c.ρ i).1 (Obj.mapSeq (·.setIfInBounds k.toNat v))).get? (c.ρ i).1 = some (seqO "list" (vs.setIfInBounds k.toNat v) (if (vs.setIfInBounds k.toNat v).size == vs.size then kk else kk + 1)) := Heap.get?_update_self _ i1 rfl
 have oth : ∀ a, (c.ρ i).1 ≠ a → (s.heap.update (c.ρ i).1 (Obj.mapSeq (·.setIfInBounds k.toNat v))).get? a = c.h.get? a := fun a q => by rw [Heap.get?_update_other _ _ q, X.heap]
 have T := X.turn (mo' := .list (l.set k.toNat mv)) (h' := s.heap.update (c.ρ i).1 (Obj.mapSeq (·.setIfInBounds k.toNat v))) (s' := { s with heap := s.heap.update (c.ρ i).1 (Obj.mapSeq (·.setIfInBounds k.toNat v)) }) hi ro.1 (fun _ => id)
  (fun a o ha hne => (oth a fun q => hne q.symm).trans ha) (fun a o ha => (Classical.em ((c.ρ i).1 = a)).elim (fun q => by subst q; exact ⟨_, g1⟩) fun q => ⟨o, (oth a q).trans ha⟩)
  (fun c' hc' A => ⟨_, _, hc' ▸ g1, by rw [Array.toList_setIfInBounds]; exact (r1.mono A (noP c)).set _ (r.mono A (noP c))⟩) rfl rfl rfl (nlr _)
 exact ⟨(), _, q, T.1, T.2, trivial⟩
theorem nameOf_eq {t : Expr} {x : Str} (h : nameOf t = some x) : ∃ p, t = .Name x p := by
 cases t with
 | Name y p => cases h; exact ⟨p, rfl⟩
 | _ => exact nos h
theorem isLocal_eq {x : Str} (h : isLocal sc x = true) : sc.names.lookup x = some .local := beq_iff_eq.mp h
theorem WL.binds : ∀ {ts : List Expr} {vs : List MV} {ws : List Value} {le : LEnv} {c : Cx} {s : Shared}, Pl g n u sc f le c s → MRs c vs ws →
  WL g f c s (assignInOrder ((assignEach ts f.env).map (·.2)) ws) (M.opt (bindNames sc ts vs le) c.st) (LeR g sc f)
 | [], vs, ws, le, c, s, Z, r => by
  cases vs with
  | nil => cases r; exact fun _ => wpAny_pure ⟨le, c, rfl, Z.X, .refl c, Z.F⟩
  | cons v vs => exact W.bad
 | t :: ts, vs, ws, le, c, s, Z, r => by
  unfold bindNames
  cases hn : nameOf t with
  | none => exact W.bad
  | some x =>
   cases vs with
   | nil => exact W.bad
   | cons v vs =>
    cases r with | mk w ws e a b =>
    subst e
    by_cases hl : isLocal sc x = true
    ·dsimp only
     rw [if_pos hl]
     refine (nameOf_eq hn).elim fun p q => ?_
     subst q
     refine fun hb => wpAny_assignInOrder_more ?_
     show wpAny _ _ (assign (.Name x p) f.env w) _ _ _
     rw [PySem.assign_Name]
     refine wpAny_bind (wpAny_standAt (wpAny_mono (WL.store Z (isLocal_eq hl) a nofun) (fun _ s1 p => ?_) fun _ _ q => nomatch q.1))
     cases p with | mk le1 c1 e1 X1 A1 F1 =>
     have e := ok_inj e1
     cases e.1
     have h3 := WL.binds (ts := ts) ⟨Z.Y, X1, F1⟩ (MRs.mono A1 (ownX Z.F) b)
     rw [← e.2] at h3
     exact WP.at_ (ownX Z.F) A1 h3 hb
    ·dsimp only; rw [if_neg hl]; exact W.bad
end
section
variable {g : G} {mg mb : Str → Option Value} {cfg : Cfg} {n u : Nat} {f : Fm} {c : Cx} {s : Shared} {sc : Scope} {le : LEnv}
inductive ItsR (s : Shared) (c : Cx) (l : List MV) (w : Value) : Prop
 | mk (ad : Addr) (vs : Array Value) (k : Nat) (T : String) (e : w = .ref ad) (hT : T = "tuple" ∨ T = "list") (g : s.heap.get? ad = some (seqO T vs k)) (r : MRs c l vs.toList)
theorem items_lst (X : St g c s) {v : MV} {w : Value} (r : MR c v w) {l : List MV} (e : lOf v c.st = some l) : ItsR s c l w := by
 cases lOf_at X r e with | mk ad vs k e i1 r1 => exact ⟨ad, vs, k, "list", e, .inr rfl, i1, r1⟩
theorem items_at (X : St g c s) {v : MV} {w : Value} (r : MR c v w) {l : List MV} (e : items v c.st = some l) : ItsR s c l w := by
 cases v with
 | d x =>
  cases x with
  | tup l => cases e; cases r with | mk a vs k e g n r => exact ⟨a, vs, k, "tuple", e, .inl rfl, X.heap ▸ g, MRs.of_d r⟩
  | _ => exact items_lst X r e
 | tup l => cases e; cases r with | mk a vs k e g n r => exact ⟨a, vs, k, "tuple", e, .inl rfl, X.heap ▸ g, r⟩
 | ref n => exact items_lst X r e
theorem bindNames_len : ∀ {ts : List Expr} {vs : List MV} {le le' : LEnv}, bindNames sc ts vs le = some le' → ts.length = vs.length ∧ ∀ t ∈ ts, ∃ x p, t = .Name x p
 | [], vs, _, _, h => by
  cases vs with
  | nil => exact ⟨rfl, fun t h => nomatch h⟩
  | cons => exact nos h
 | t :: ts, vs, le, le', h => by
  unfold bindNames at h
  cases hn : nameOf t with
  | none => rw [hn] at h; exact nos h
  | some x =>
   rw [hn] at h
   cases vs with
   | nil => exact nos h
   | cons v vs =>
    dsimp only at h
    by_cases hl : isLocal sc x = true
    ·rw [if_pos hl] at h
     have ih := bindNames_len h
     refine ⟨congrArg (· + 1) ih.1, fun t' ht => ?_⟩
     cases ht with
     | head => exact ⟨x, nameOf_eq hn⟩
     | tail _ ht => exact ih.2 t' ht
    ·rw [if_neg hl] at h; exact nos h
theorem assignEach_names {env : Env} : ∀ {ts : List Expr}, (∀ t ∈ ts, ∃ x p, t = .Name x p) → (assignEach ts env).length = ts.length ∧ (assignEach ts env).findIdx? (·.1) = none
 | [], _ => ⟨rfl, rfl⟩
 | t :: r, h => (h t (List.mem_cons_self ..)).elim fun x q => q.elim fun p q => by
  subst q
  have ih := assignEach_names (env := env) (ts := r) fun t ht => h t (List.mem_cons_of_mem _ ht)
  exact ⟨congrArg (· + 1) ih.1, (List.findIdx?_cons ..).trans (congrArg (Option.map _) ih.2)⟩
theorem draw_list {A : Around} {E : Value → Shared → Prop} {it l : Addr} {items : Array Value} (hne : l ≠ it) : ∀ (k i : Nat) (s : Shared) (Q : List Value → Shared → Prop), s.heap.IsListIter it l i → s.heap.IsList l items → i + k ≤ items.size →
  (∀ h', h'.IsListIter it l (i + k) → Heap.SameBut it s.heap h' → Q ((items.toList.drop i).take k) { s with heap := h' }) → wpAny (model g.prog g.w) A (draw (.ref it) k) Q E s := by
 intro k
 induction k with
 | zero =>
  intro i s Q hit _ _ hQ
  exact wpAny_pure (by simpa using hQ s.heap hit (Heap.SameBut.refl ..))
 | succ k ih =>
  intro i s Q hit hl hle hQ
  have hlt : i < items.size := by omega
  show wpAny _ _ (pyNext (.ref it) >>= _) Q E s
  refine wpAny_bind (wpAny_pyNext_list_item hit hl (x := items[i]) (by simp [hlt]) fun h1 hit1 hs1 => ?_)
  refine wpAny_bind (wpAny_holding (ih (i + 1) _ _ hit1 (hl.extBut hs1.extBut hne) (by omega) fun h2 hit2 hs2 => wpAny_pure ?_))
  have hd : items.toList.drop i = items[i] :: items.toList.drop (i + 1) := by simp [List.drop_eq_getElem_cons, hlt]
  have := hQ h2 (by rw [show i + (k + 1) = i + 1 + k by omega]; exact hit2) (hs1.trans hs2)
  rw [hd, List.take_succ_cons] at this
  exact this
theorem unpack_list {A : Around} {E : Value → Shared → Prop} {l : Addr} {items : Array Value} {Q : List Value → Shared → Prop} (hh : A.handled = none) (hl : s.heap.IsList l items)
  (hQ : ∀ h', Heap.ExtBut s.heap.objs.size s.heap h' → Q items.toList { s with heap := h' }) : wpAny (model g.prog g.w) A (unpackItems (.ref l) items.size none) Q E s := by
 have hlt : l ≠ s.heap.objs.size := by obtain ⟨o, ho, _⟩ := hl; exact nnl (Heap.lt_size ho)
 unfold unpackItems notIterableAtAll
 refine wpAny_bind (wpAny_bind (wpAny_specialOf hl.typeIs PySem.slot_list_iter.lookup (wpAny_pure ?_)))
 simp only [Bool.false_eq_true, if_false]
 refine wpAny_bind (wpAny_holding (wpAny_pyIter_list hl ?_))
 refine wpAny_bind (wpAny_holding (draw_list hlt items.size 0 _ _ ⟨_, Heap.get?_push_size _ rfl, rfl, rfl⟩ (hl.push _) (by omega) fun h1 hit1 hs1 => ?_))
 have hall : List.take items.size (List.drop 0 items.toList) = items.toList := by
  rw [List.drop_zero]; exact List.take_of_length_le (by simp)
 rw [hall, if_neg (by simp)]
 have hl1 : h1.IsList l items := (hl.push _).extBut hs1.extBut hlt
 refine wpAny_bind (wpAny_holding (wpAny_pyNext_list_end hh hit1 hl1 (by simp) fun h2 he2 => ?_))
 simp only [Option.isSome_none, Bool.false_eq_true, if_false]
 exact wpAny_pure (hQ h2 fun b o hb e => he2 b o hb (hs1.extBut b o hb (Heap.get?_push_of_some _ e)))
theorem WL.assignTo (H : GOk g mg mb) (hk : TK g) (C : CallOk g cfg n u) (Z : Pl g n u sc f le c s) (t : Expr) {mv : MV} {v : Value} (r : MR c mv v) : WL g f c s (assign t f.env v) (Mine.assignTo cfg sc t mv le c.st) (LeR g sc f) := by
 have kX := ownX Z.F
 cases t with
 | Name x p =>
  refine W.ite (m := M.pure (le.set x mv)) fun hl => ?_
  rw [PySem.assign_Name]
  exact W.standAt (WL.store Z (isLocal_eq hl) r)
 | Attribute o attr p =>
  refine WL.seqW (l := fun ov => M.bind (Mine.setAttr cfg.T ov attr mv) fun _ => M.pure le) kX (W.holding (ev_ok H hk C o Z)) fun a ov c1 s1 X1 A1 ra => W.standAt ?_
  have Z1 := Z.adv X1 A1
  rw [C.T]
  exact WL.seqW (ownX Z1.F) (W.holding (W.setAttr (X1.kin H) hk.cls X1 ra (r.mono A1 (noP c)))) fun _ _ c2 s2 X2 A2 _ _ => wpAny_release ⟨le, c2, rfl, X2, .refl c2, (Z1.adv X2 A2).F⟩
 | Subscript o i p =>
  refine WL.seqW (l := fun ov => M.bind (ev cfg i sc le) fun iv => M.bind (Mine.setItem ov iv mv) fun _ => M.pure le) kX (W.holding (ev_ok H hk C o Z)) fun a ov c1 s1 X1 A1 ra => ?_
  have Z1 := Z.adv X1 A1
  refine WL.seqW (ownX Z1.F) (W.holding (ev_ok H hk C i Z1)) fun b iv c2 s2 X2 A2 rb => W.standAt ?_
  have Z2 := Z1.adv X2 A2
  exact WL.seqW (ownX Z2.F) (W.holding (W.setItem X2 (ra.mono A2 (noP c1)) rb (r.mono (A1.trans A2) (noP c)))) fun _ _ c3 s3 X3 A3 _ _ => wpAny_release ⟨le, c3, rfl, X3, .refl c3, (Z2.adv X3 A3).F⟩
 | Tuple ts k p =>
  refine W.optM (l := fun vs => M.opt (bindNames sc ts vs le)) fun vs hi => ?_
  cases hb0 : bindNames sc ts vs le with
  | none => exact W.bad
  | some le' =>
   have L := bindNames_len hb0
   have E := assignEach_names (env := f.env) L.2
   cases items_at Z.X r hi with | mk ad ws kk T e hT hg rv =>
   subst e
   have hsz : (assignEach ts f.env).length = ws.size := E.1.trans (L.1.trans rv.length)
   refine W.standAt (pos := p) (t := fun _ => unpack (.ref ad) (assignEach ts f.env)) fun hb => ?_
   have go : ∀ h', Heap.ExtBut s.heap.objs.size s.heap h' → wpAny (model g.prog g.w) f.A (assignInOrder ((assignEach ts f.env).map (·.2)) ws.toList) (Post (own f) g c (M.opt (some le') c.st) (LeR g sc f)) (fun e s' => M.opt (some le') c.st = .exc ∧ ExcP g f.envs (own f) c e s') { s with heap := h' } := fun h' ext => by
    have Y := Z.X.grow (h' := h') (s' := { s with heap := h' }) (fun a o e => ext a o (nnl (Heap.lt_size (Z.X.heap ▸ e))) (Z.X.heap ▸ e)) rfl rfl rfl (nlr _)
    have h1 := WL.binds (ts := ts) (Z.adv Y.1 Y.2) (rv.mono Y.2 (noP c))
    rw [hb0] at h1
    exact WP.at_ kX Y.2.toP h1 nofun
   exact hT.elim (fun q => by subst q; exact wpAny_unpack_tuple Z.Y.hd ⟨_, hg, rfl, _, rfl⟩ hsz E.2 go) fun q => by
    subst q
    unfold unpack
    rw [hsz, E.2]
    exact wpAny_bind (wpAny_holding (unpack_list Z.Y.hd ⟨_, hg, rfl, _, rfl⟩ go))
 | _ => exact W.bad
end
section
variable {g : G} {mg mb : Str → Option Value} {cfg : Cfg} {n u : Nat} {f : Fm} {c : Cx} {s : Shared} {sc : Scope} {le : LEnv}
def InF (f : Fm) : Prop := f.env.frame = some f.L ∧ ∃ outer, f.envs = f.env :: outer
def ExR (g : G) (sc : Scope) (f : Fm) (c : Cx) (p : Fl × LEnv) (fl : Flow) : Prop := match p.1 with
 | .next => fl = .next ∧ FrSt g sc f p.2 c
 | .ret v => ∃ w, fl = .ret w ∧ MR c v w
def ExOk (g : G) (cfg : Cfg) (n u : Nat) (st : Stmt) : Prop := ∀ ⦃sc : Scope⦄ ⦃f : Fm⦄ ⦃le : LEnv⦄ ⦃c : Cx⦄ ⦃s : Shared⦄, Pl g n u sc f le c s → InF f → WL g f c s (exec st f.env) (ex cfg sc st le c.st) (ExR g sc f)
def ExsOk (g : G) (cfg : Cfg) (n u : Nat) (b : List Stmt) : Prop := ∀ ⦃sc : Scope⦄ ⦃f : Fm⦄ ⦃le : LEnv⦄ ⦃c : Cx⦄ ⦃s : Shared⦄, Pl g n u sc f le c s → InF f → WL g f c s (execs b f.env) (exs cfg sc b le c.st) (ExR g sc f)
theorem WL.on {t2 : Flow → Sem Flow} {k : Sx} {p : Fl × LEnv} {fl : Flow} (X : St g c s) (r : ExR g sc f c p fl) (h : ∀ le, p.1 = .next → FrSt g sc f le c → WL g f c s (t2 .next) (k le c.st) (ExR g sc f)) (hr : ∀ w, t2 (.ret w) = pure (.ret w)) :
  WL g f c s (t2 fl) (goOn p k c.st) (ExR g sc f) := by
 obtain ⟨fl0, le1⟩ := p
 cases fl0 with
 | next => cases r.1; exact h le1 rfl r.2
 | ret v => exact r.elim fun w q => by cases q.1; exact W.ret X ⟨w, rfl, q.2⟩ (hr w)
theorem exs_of : ∀ {b : List Stmt}, (∀ st ∈ b, ExOk g cfg n u st) → ExsOk g cfg n u b
 | [], _, _, _, le, c, _, Z, _ => fun _ => wpAny_execs_nil ⟨(.next, le), c, rfl, Z.X, .refl c, rfl, Z.F⟩
 | st :: r, h, sc, f, le, c, s, Z, I => by
  rw [execs_cons]
  exact WP.seq (ownX Z.F) (h st (List.mem_cons_self ..) Z I) fun p fl c1 s1 X1 A1 q => WL.on (t2 := fun fl => (match fl with | .next => execs r f.env | fl => pure fl : Sem Flow)) (k := exs cfg sc r) X1 q (fun le1 _ F1 => exs_of (fun e he => h e (List.mem_cons_of_mem _ he)) ⟨Z.Y, X1, F1⟩ I) fun _ => rfl
theorem not_interactive (Y : FmOk sc f n u) : interactive f.env = false := by unfold interactive; rw [Y.fn]; rfl
theorem W.next {t : Sem Flow} {P : Addr → Prop} (X : St g c s) (F : FrSt g sc f le c) (h : ∀ (Q : Flow → Shared → Prop) (E : Value → Shared → Prop), Q .next s → wpAny (model g.prog g.w) f.A t Q E s) : WP P g f c s t (M.pure (Fl.next, le) c.st) (ExR g sc f) :=
 fun _ => h _ _ ⟨_, c, rfl, X, .refl c, rfl, F⟩
noncomputable def setC : Expr → Bool
 | .SetComp _ _ _ _ => true
 | .DictComp _ _ _ _ _ => true
 | _ => false
theorem swaps_no {v : Expr} (h1 : isComp v = false) (h2 : setC v = false) {t : Option Expr} {k : Nat} {env : Env} : swapsWith v t k env = pure false := by
 cases v <;> first | rfl | exact Bool.noConfusion h1 | exact Bool.noConfusion h2
theorem ev_setC {v : Expr} (h : setC v = true) : ev cfg v sc le = M.bad := by
 cases v <;> first | rfl | exact Bool.noConfusion h
theorem ex_Expr (H : GOk g mg mb) (hk : TK g) (C : CallOk g cfg n u) (v : Expr) (pos : Pos) : ExOk g cfg n u (.Expr v pos) := fun sc f le c s Z _ => by
 cases hc : isComp v with
 | true => exact W.bad' (congrFun (if_pos hc) _)
 | false =>
  refine W.eqv (k := M.bind (ev cfg v sc le) (fun _ => M.pure (.next, le)) c.st) ?_ (congrFun (if_neg (by rw [hc]; exact nofun)) _).symm
  cases hs : setC v with
  | true => exact W.bad' (bind_bad (by rw [ev_setC hs]; rfl))
  | false =>
   rw [exec_Expr f.env v pos (not_interactive Z.Y) (swaps_no hc hs)]
   exact W.standAt (WL.seqW (ownX Z.F) (ev_ok H hk C v Z) fun a w c1 s1 X1 A1 r => W.next X1 (Z.F.adv A1) fun Q E k => wpAny_dropValue k)
theorem ex_Pass (pos : Pos) : ExOk g cfg n u (.Pass pos) := fun _ _ _ _ _ Z _ => W.standAt (W.ret Z.X ⟨rfl, Z.F⟩)
theorem ex_Return (H : GOk g mg mb) (hk : TK g) (C : CallOk g cfg n u) (v : Option Expr) (pos : Pos) : ExOk g cfg n u (.Return v pos) := fun sc f le c s Z _ => by
 cases v with
 | none => exact W.standAt (W.ret Z.X ⟨.none, rfl, rfl⟩)
 | some v =>
  show WL g f c s (PySem.standAt pos >>= fun _ => eval v f.env >>= fun x => pure (Flow.ret x)) (M.bind (ev cfg v sc le) (fun x => M.pure (Fl.ret x, le)) c.st) _
  exact W.standAt (WL.seqW (ownX Z.F) (ev_ok H hk C v Z) fun a w c1 s1 X1 A1 r => W.ret X1 ⟨w, rfl, r⟩)
theorem ex_If (H : GOk g mg mb) (hk : TK g) (C : CallOk g cfg n u) (t : Expr) (a b : List Stmt) (pos : Pos) (ha : ExsOk g cfg n u a) (hb : ExsOk g cfg n u b) : ExOk g cfg n u (.If t a b pos) := fun sc f le c s Z I =>
 W.standAt (WL.seqW (l := fun x => if x = true then exs cfg sc a le else exs cfg sc b le) (ownX Z.F) (tst_ok H hk C t Z) fun x y c1 s1 X1 A1 q => by
  cases q
  cases x
  ·exact hb (Z.adv X1 A1) I
  ·exact ha (Z.adv X1 A1) I)
end
theorem nodup_of_eraseDups : ∀ (k : Nat) (l : List Str), l.length ≤ k → l.eraseDups.length ≤ l.length ∧ (l.eraseDups.length = l.length → l.Nodup)
 | _, [], _ => ⟨nlr _, fun _ => .nil⟩
 | k + 1, a :: r, h => by
  rw [List.eraseDups_cons, llc, llc]
  have h1 := List.length_filter_le (fun b => !b == a) r
  have h2 := nodup_of_eraseDups k (r.filter fun b => !b == a) (nlt h1 (Nat.le_of_succ_le_succ h))
  refine ⟨Nat.succ_le_succ (nlt h2.1 h1), fun e => ?_⟩
  have e := Nat.succ.inj e
  have h3 := Nat.le_antisymm h1 (e ▸ h2.1)
  have h5 := List.length_filter_eq_length_iff.mp h3
  have h4 : r.filter (fun b => !b == a) = r := List.filter_eq_self.mpr h5
  rw [h4] at e h2
  exact List.nodup_cons.mpr ⟨fun hm => by have := h5 a hm; rw [beq_self_eq_true] at this; exact Bool.noConfusion this, h2.2 e⟩
section
variable {g : G} {mg mb : Str → Option Value} {cfg : Cfg} {n u : Nat} {f : Fm} {c : Cx} {s : Shared} {sc : Scope} {le : LEnv}
noncomputable def setAll : List Str → List MV → LEnv → LEnv
 | x :: xs, v :: vs, le => setAll xs vs (le.set x v)
 | _, _, le => le
theorem set_comm (le : LEnv) {x y : Str} (v w : MV) (h : x ≠ y) : (le.set x v).set y w = (le.set y w).set x v := by
 funext z
 unfold LEnv.set
 by_cases h1 : z = y
 ·rw [if_pos h1, if_neg (fun h2 => h (h2.symm.trans h1)), if_pos h1]
 ·rw [if_neg h1, if_neg h1]
theorem setAll_set : ∀ (xs : List Str) (vs : List MV) (le : LEnv) (x : Str) (v : MV), x ∉ xs → setAll xs vs (le.set x v) = (setAll xs vs le).set x v
 | [], vs, _, _, _, _ => by cases vs <;> rfl
 | _ :: _, [], _, _, _, _ => rfl
 | y :: xs, w :: vs, le, x, v, h => by
  show setAll xs vs ((le.set x v).set y w) = (setAll xs vs (le.set y w)).set x v
  rw [set_comm _ _ _ (fun e : x = y => h (by rw [e]; exact List.mem_cons_self ..)), setAll_set xs vs _ x v fun m => h (List.mem_cons_of_mem _ m)]
theorem setAll_snoc : ∀ (xs : List Str) (vs : List MV) (le : LEnv) (x : Str) (v : MV), xs.length = vs.length → setAll (xs ++ [x]) (vs ++ [v]) le = (setAll xs vs le).set x v
 | [], [], _, _, _, _ => rfl
 | [], _ :: _, _, _, _, h => nomatch h
 | _ :: _, [], _, _, _, h => nomatch h
 | _ :: xs, _ :: vs, _, x, v, h => setAll_snoc xs vs _ x v (Nat.succ.inj h)
theorem setAll_rev : ∀ (xs : List Str) (vs : List MV) (le : LEnv), xs.Nodup → xs.length = vs.length → setAll xs.reverse vs.reverse le = setAll xs vs le
 | [], [], _, _, _ => rfl
 | [], _ :: _, _, _, h => nomatch h
 | _ :: _, [], _, _, h => nomatch h
 | x :: xs, v :: vs, le, hn, h => by
  have hn := List.nodup_cons.mp hn
  have h := Nat.succ.inj h
  rw [List.reverse_cons, List.reverse_cons, setAll_snoc _ _ _ _ _ (by rw [List.length_reverse, List.length_reverse, h]), setAll_rev xs vs le hn.2 h]
  exact (setAll_set xs vs le x v hn.1).symm
theorem bindNames_all : ∀ {ts : List Expr} {vs : List MV} {le le' : LEnv} {names : List Str}, bindNames sc ts vs le = some le' → ts.map nameOf = names.map some → le' = setAll names vs le ∧ ∀ x ∈ names, sc.names.lookup x = some .local
 | [], vs, le, le', names, h, e => by
  cases names with
  | cons => cases e
  | nil => cases vs with
   | nil => cases h; exact ⟨rfl, fun _ h => nomatch h⟩
   | cons => exact nos h
 | t :: r, vs, le, le', names, h, e => by
  cases names with
  | nil => cases e
  | cons y names =>
   have e1 : nameOf t = some y := List.head_eq_of_cons_eq e
   unfold bindNames at h
   rw [e1] at h
   cases vs with
   | nil => exact nos h
   | cons v vs =>
    dsimp only at h
    by_cases hl : isLocal sc y = true
    ·rw [if_pos hl] at h
     have ih := bindNames_all h (List.tail_eq_of_cons_eq e)
     refine ⟨ih.1, fun x hx => ?_⟩
     cases hx with
     | head => exact isLocal_eq hl
     | tail _ hx => exact ih.2 x hx
    ·rw [if_neg hl] at h; exact nos h
theorem WL.bindL : ∀ {xs : List Str} {vs : List MV} {ws : List Value} {le : LEnv} {c : Cx} {s : Shared}, Pl g n u sc f le c s → MRs c vs ws → (∀ x ∈ xs, sc.names.lookup x = some .local) → xs.length = vs.length →
  WL g f c s (assignInOrder (xs.map fun x => bindName f.env x) ws) (M.pure (setAll xs vs le) c.st) (LeR g sc f)
 | [], [], _, _, _, _, Z, r, _, _ => by cases r; exact fun _ => wpAny_pure ⟨_, _, rfl, Z.X, .refl _, Z.F⟩
 | [], _ :: _, _, _, _, _, _, _, _, h => nomatch h
 | _ :: _, [], _, _, _, _, _, _, _, h => nomatch h
 | x :: xs, v :: vs, ws, le, c, s, Z, r, hx, h => fun hb => by
  cases r with | mk w ws e a b =>
  subst e
  refine wpAny_assignInOrder_more (wpAny_mono (WL.store Z (hx x (List.mem_cons_self ..)) a nofun) (fun _ s1 p => ?_) fun _ _ q => nomatch q.1)
  cases p with | mk le1 c1 e1 X1 A1 F1 =>
  have e := ok_inj e1
  cases e.1
  have h3 := WL.bindL (xs := xs) ⟨Z.Y, X1, F1⟩ (MRs.mono A1 (ownX Z.F) b) (fun y hy => hx y (List.mem_cons_of_mem _ hy)) (Nat.succ.inj h)
  rw [← e.2] at h3
  exact WP.at_ (ownX Z.F) A1 h3 hb
theorem filterMap_names {φ : Expr → Option Str} (hφ : ∀ e id, φ e = some id → nameOf e = some id) : ∀ {ts : List Expr}, (ts.filterMap φ).length = ts.length → ts.map nameOf = (ts.filterMap φ).map some
 | [], _ => rfl
 | t :: r, h => by
  cases hq : φ t with
  | none => rw [List.filterMap_cons_none hq] at h; exact absurd (h ▸ List.length_filterMap_le φ r) (Nat.not_succ_le_self _)
  | some x =>
   rw [List.filterMap_cons_some hq] at h ⊢
   rw [List.map_cons, List.map_cons, hφ t x hq, filterMap_names hφ (Nat.succ.inj h)]
inductive SwapR (t : Expr) : Option (List Str) → Prop
 | none : SwapR t none
 | some (ts : List Expr) (k : Nat) (p : Pos) (names : List Str) (ht : t = .Tuple ts k p) (hm : ts.map nameOf = names.map some) (hn : names.Nodup) : SwapR t (some names)
noncomputable def isTup : Expr → Bool
 | .Tuple _ _ _ => true
 | _ => false
theorem swap_no {ts : List Expr} {k : Nat} {p : Pos} {v : Expr} {env : Env} (h : isTup v = false) : swappedStores [.Tuple ts k p] v env = pure none := by
 cases v <;> first | rfl | exact Bool.noConfusion h
theorem swapped_of {t v : Expr} {env : Env} (h : swapOk t v = true) : ∃ o, swappedStores [t] v env = pure o ∧ SwapR t o := by
 cases t with
 | Tuple ts k p =>
  cases hv : isTup v with
  | false => exact ⟨none, swap_no hv, .none⟩
  | true =>
   cases v with
   | Tuple vs k' p' =>
    unfold swappedStores
    dsimp only
    split
    ·exact ⟨none, rfl, .none⟩
    split
    ·exact ⟨none, rfl, .none⟩
    split
    ·exact ⟨none, rfl, .none⟩
    rename_i hn
    split
    ·exact ⟨none, rfl, .none⟩
    rename_i hff
    split
    ·rename_i hcc
     have h : (vs.all (foldedForSure 8) || !vs.all (constantsAlone 8)) = true := h
     rw [Bool.eq_false_iff.mpr hff, hcc] at h
     exact Bool.noConfusion h
    have hn := not_or.mp (Bool.or_eq_true _ _ ▸ hn)
    refine ⟨some _, rfl, .some ts k p _ rfl (filterMap_names (fun e id he => ?_) (Classical.byContradiction fun q => hn.1 (bne_iff_ne.mpr q))) ((nodup_of_eraseDups _ _ (nlr _)).2 (Classical.byContradiction fun q => hn.2 (bne_iff_ne.mpr q)))⟩
    split at he
    ·split at he
     ·cases he; rfl
     ·cases he
    ·cases he
   | _ => exact Bool.noConfusion hv
 | List es p => exact Bool.noConfusion h
 | _ => exact ⟨none, rfl, .none⟩
end
section
variable {g : G} {mg mb : Str → Option Value} {cfg : Cfg} {n u : Nat} {f : Fm} {c : Cx} {s : Shared} {sc cs : Scope} {le : LEnv} {y : Addr → Prop}
theorem All2.reverse {α β : Type} {R : α → β → Prop} : ∀ (l : List α) {m : List β}, All2 R l m → All2 R l.reverse m.reverse
 | [], _, e => by cases e; rfl
 | a :: l, _, .mk v r e p q => by
  cases e
  rw [List.reverse_cons, List.reverse_cons]
  exact All2.append (All2.cons p All2.nil) _ (All2.reverse l q)
theorem MRs.reverse {a : List MV} {va : List Value} (r : MRs c a va) : MRs c a.reverse va.reverse := MRs.of (r.all.reverse a)
theorem assignAll_one {t : Expr} {env : Env} {v : Value} (h : notStar t = true) : assignAll v ((assignEach [t] env).map (·.2)) = assign t env v := by
 cases t <;> first | rfl | exact Bool.noConfusion h
theorem assign_star {t : Expr} (h : notStar t = false) {mv : MV} : Mine.assignTo cfg sc t mv le = M.bad := by
 cases t <;> first | rfl | exact Bool.noConfusion h
theorem WL.swap {tr : List (Value → Sem Unit)} (Z : Pl g n u sc f le c s) {ts : List Expr} {names : List Str} (hm : ts.map nameOf = names.map some) (hn : names.Nodup) {mv : MV} {w : Value} (r : MR c mv w) :
  WL g f c s (assignStores f.env w (some names) tr) (M.bind (M.bind (optM (items mv)) fun vs => M.opt (bindNames sc ts vs le)) (fun le' => M.pure (Fl.next, le')) c.st) (ExR g sc f) := by
 rw [bind_assoc]
 refine W.optM fun vs hi => W.opt fun le' hb => ?_
 have L := bindNames_len hb
 have hle := bindNames_all hb hm
 have hnl : names.length = ts.length := by have := congrArg List.length hm; rw [llm, llm] at this; exact this.symm
 have hnv := hnl.trans L.1
 cases items_at Z.X r hi with | mk ad ws kk T e hT hg rv =>
 subst e
 have go : ∀ h', Heap.ExtBut s.heap.objs.size s.heap h' → wpAny (model g.prog g.w) f.A (assignInOrder (names.reverse.map fun n => bindName f.env n) ws.toList.reverse >>= fun _ => pure Flow.next)
   (Post (own f) g c (.ok (Fl.next, le') c.st) (ExR g sc f)) (fun e s' => O.ok (Fl.next, le') c.st = .exc ∧ ExcP g f.envs (own f) c e s') { s with heap := h' } := fun h' ext => by
  have Y := Z.X.grow (h' := h') (s' := { s with heap := h' }) (fun a o e => ext a o (nnl (Heap.lt_size (Z.X.heap ▸ e))) (Z.X.heap ▸ e)) rfl rfl rfl (nlr _)
  have h1 := WL.bindL (Z.adv Y.1 Y.2) (rv.mono Y.2 (noP c)).reverse (fun x hx => hle.2 x (List.mem_reverse.mp hx)) (by rw [List.length_reverse, List.length_reverse, hnv])
  rw [setAll_rev names vs le hn hnv, ← hle.1] at h1
  refine wpAny_bind (wpAny_mono (h1 nofun) (fun _ s' p => wpAny_pure ?_) fun _ _ q => nomatch q.1)
  cases p with | mk a c' e X' A' r' =>
  have e := ok_inj e
  cases e.1
  exact ⟨_, c', congrArg (O.ok _) e.2, X', Y.2.toP.trans A', rfl, r'⟩
 refine fun _ => wpAny_bind (wpAny_rule ?_)
 rw [hnv.trans rv.length]
 exact wpAny_bind (hT.elim (fun q => by subst q; exact wpAny_unpackItems_tuple Z.Y.hd ⟨_, hg, rfl, _, rfl⟩ go) fun q => by subst q; exact unpack_list Z.Y.hd ⟨_, hg, rfl, _, rfl⟩ go)
theorem WL.stores (H : GOk g mg mb) (hk : TK g) (C : CallOk g cfg n u) (Z : Pl g n u sc f le c s) {t v : Expr} (hs : swapOk t v = true) {mv : MV} {w : Value} (r : MR c mv w) :
  WL g f c s (swappedStores [t] v f.env >>= fun o => assignStores f.env w o ((assignEach [t] f.env).map (·.2))) (M.bind (Mine.assignTo cfg sc t mv le) (fun le' => M.pure (Fl.next, le')) c.st) (ExR g sc f) :=
 (swapped_of (env := f.env) hs).elim fun o q => by
 rw [q.1]
 refine fun hb => wpAny_bind (wpAny_pure ?_)
 cases q.2 with
 | none =>
  cases hst : notStar t with
  | false => exact absurd (by rw [assign_star hst]; rfl) hb
  | true =>
   show wpAny _ _ (assignAll w ((assignEach [t] f.env).map (·.2)) >>= fun _ => pure Flow.next) _ _ _
   rw [assignAll_one hst]
   exact WP.seq (ownX Z.F) (WL.assignTo H hk C Z t r) (fun le' _ c1 s1 X1 A1 F1 => W.ret X1 ⟨rfl, F1⟩) hb
 | some ts k p names ht hm hn =>
  subst ht
  exact WL.swap Z hm hn r hb
theorem AdvP.weaken {P P' : Addr → Prop} {c c' : Cx} (A : AdvP P c c') (h : ∀ a, P a → P' a) : AdvP P' c c' := ⟨fun a o e n q => A.keep a o e n fun z => q (h a z), A.own, A.live, A.x, A.w, A.next, A.rho, A.n⟩
theorem St.leaveP {P : Addr → Prop} {s' : Shared} {c0 c1 c2 : Cx} (X : St g c2 s) (En : Enter y c0 c1) (A : AdvP (fun a => y a ∨ P a) c1 c2) {h' : Heap} (k : ∀ a o, c2.h.get? a = some o → ¬ y a → h'.get? a = some o)
  (hs : s'.heap = h') (hg : s'.gens = s.gens) (ho : s'.os = s.os) (ht : s.toks ≤ s'.toks) : St g (c2.re h' c0.x c0.w) s' ∧ AdvP P c0 (c2.re h' c0.x c0.w) := by
 have hx : ∀ a, c0.x a → c2.x a := fun a q => by rw [A.x]; exact (En.x a).mpr (.inl q)
 have yx : ∀ a, y a → c2.x a := fun a q => by rw [A.x]; exact (En.x a).mpr (.inr q)
 have k' : ∀ a o, c2.h.get? a = some o → ¬ c2.x a → h'.get? a = some o := fun a o e n => k a o e fun q => n (yx a q)
 refine ⟨X.re ⟨fun a o e n => ⟨k' a o e fun q => n (.inr q), fun q => n (q.imp id (hx a))⟩, nlr _, fun _ _ => rfl, fun _ _ h => h⟩ (fun a o q e => k' a o e (X.sep a q))
  (fun a o e => ⟨k' a o (X.base a o e).1 fun q => (X.base a o e).2 (.inr q), fun q => (X.base a o e).2 (.inr (hx a q))⟩) (fun a q => (X.xlt a (hx a q)).imp fun o e => k a o e (En.old a q)) (fun a q hq => X.sep a q (hx a hq)) hs hg ho ht,
  ⟨fun a o e q np => ?_, fun a o e q => (En.live a o e q).elim fun o1 e1 => A.own a o1 e1 (En.own a o e q), fun a o e q => (En.live a o e q).elim fun o1 e1 => (A.live a o1 e1 (En.own a o e q)).imp fun o2 e2 => k a o2 e2 (En.ny e), rfl, rfl,
   nlt En.next A.next, fun n hn => (A.rho n (lll hn En.next)).trans (En.rho n hn), fun l t q => A.n l t (En.n l t q)⟩⟩
 cases En.keep a o e q with | mk o1 e1 s1 k1 =>
 cases A.keep a o1 e1 (En.own a o e q) (fun z => z.elim (En.ny e) np) with | mk o' e' s' kk =>
 exact ⟨o', k a o' e' (En.ny e), s1.trans s', fun nx => (kk fun q1 => ((En.x a).mp q1.1).elim (fun q2 => nx ⟨q2, (En.w a q2).mp q1.2⟩) (En.ny e)).trans (k1 nx)⟩
theorem FrSt.left {P : Addr → Prop} {c0 c1 c2 : Cx} {h' : Heap} {le' : LEnv} (F : FrSt g sc f le c2) (F0 : FrSt g sc f le' c0) (En : Enter y c0 c1) (A : AdvP P c1 c2) (k : ∀ a o, c2.h.get? a = some o → ¬ y a → h'.get? a = some o) : FrSt g sc f le (c2.re h' c0.x c0.w) := by
 have hx : ∀ a, c0.x a → c2.x a := fun a q => by rw [A.x]; exact (En.x a).mpr (.inl q)
 have yx : ∀ a, y a → c2.x a := fun a q => by rw [A.x]; exact (En.x a).mpr (.inr q)
 have U : Up c2 (c2.re h' c0.x c0.w) := ⟨fun a o e n => ⟨k a o e fun q => n (.inr (yx a q)), fun q => n (q.imp id (hx a))⟩, nlr _, fun _ _ => rfl, fun _ _ h => h⟩
 exact ⟨⟨F.notO, F0.inx, frames_keep (fun e he a ha o eo n => ⟨o, k a o eo (En.old a (F0.frO e he a ha).2.1), n⟩) F.frs, fun e he a ha => ⟨(F.frO e he a ha).1, (F0.frO e he a ha).2⟩, F0.wf⟩,
  F.ns.up U fun o e => ⟨o, k _ o e (En.old _ F0.inx), rfl⟩, fun x v h e => (F.cel x v h e).imp fun _ q => ⟨q.1, q.2.up U⟩⟩
end
section
variable {g : G} {mg mb : Str → Option Value} {cfg : Cfg} {n u : Nat} {f : Fm} {c : Cx} {s : Shared} {sc cs : Scope} {le : LEnv}
theorem ex_used (Z : Pl g n u sc f le c s) {x y : Str} (ok : CompOk sc cs x) {elt iter : Expr} {px py pos spos : Pos} (hs : ∀ v, foldedSetIterable iter f.env v = pure v)
  (hsw : swapsWith (.ListComp elt [⟨.Name x px, iter, [], 0⟩] cs pos) (some (.Name y py)) spos.line f.env = pure true) {m : M MV} (hI : W g f c s (eval iter f.env) (m c.st) MR) {E : LEnv → M MV} (hE : EltOk g f cs n u elt E) :
  WL g f c s (exec (.Assign [.Name y py] (.ListComp elt [⟨.Name x px, iter, [], 0⟩] cs pos) spos) f.env)
   (M.bind (compM m (fun v => E (compEnv cs le x v))) (fun v => M.bind (Mine.assignTo cfg sc (.Name y py) v le) (fun le' => M.pure (Fl.next, le'))) c.st) (ExR g sc f) := by
 rw [exec_Assign_Name_used _ _ _ _ hsw]
 refine W.standAt fun hb => wpAny_bind ?_
 show wpAny _ f.A (comprehension (.ListComp elt [⟨.Name x px, iter, [], 0⟩] cs pos) cs f.env _ (newList []) false (eval iter f.env) (some (assign (.Name y py) f.env)) >>= fun _ => pure ()) _ _ s
 refine wpAny_bind (wpAny_mono (comp_gen (use := some (assign (.Name y py) f.env)) (Q := fun _ s' => Post (own f) g c (M.bind (compM m (fun v => E (compEnv cs le x v))) (fun v => M.bind (Mine.assignTo cfg sc (.Name y py) v le) (fun le' => M.pure (Fl.next, le'))) c.st) (ExR g sc f) .next s')
  ok Z hs hI hE (fun q => hb (bind_bad q)) (fun e s1 q x => ⟨bind_exc (bind_exc q), x.toP⟩) fun total fin hq hcap c2 c3 cj I s' h' vs k mm A F2 En D => ?_) (fun _ s' q => wpAny_pure (wpAny_pure q)) fun _ _ e => e)
 have hfin := D.e
 subst hfin
 have e1 := bind_ok (l := fun v => M.bind (Mine.assignTo cfg sc (.Name y py) v le) (fun le' => M.pure (Fl.next, le'))) (hq.trans (mkList_ok hcap cj.st))
 rw [e1] at hb ⊢
 by_cases hl : isLocal sc y = true
 case neg => exact absurd (bind_bad (congrFun (if_neg hl) _)) hb
 have e2 : Mine.assignTo cfg sc (.Name y py) (.ref cj.st.next) le = M.pure (le.set y (.ref cj.st.next)) := if_pos hl
 rw [e2]
 have L := D.X.leaveG (z := fun a => a = I + 2) (x := fun a => c2.x a ∨ a = I + 2) (w := fun a => c2.w a ∧ ¬ a = I + 2) (s' := { s' with heap := h' }) (h' := h') En D.A (fun b o eb nb => D.k b o (fun q => nb (.inl q)) (D.X.heap ▸ eb)) rfl rfl rfl (nlr _) (fun _ => id)
  (fun a q => .inr (.inr q)) (fun a q => (show a = I + 2 from q) ▸ (Ns_there D.ns).imp fun _ z => z.1) (D := I + 1) (.inr (.inl rfl)) (n12 I) D.ls D.r
 have En' : Enter (fun a => a = I + 2) c2 (cj.left total (I + 1) h' (fun a => c2.x a ∨ a = I + 2) fun a => c2.w a ∧ ¬ a = I + 2) := ⟨L.2.1, fun _ => .rfl, fun a q => En.new a (.inr (.inr q)), fun a q r => En.old a q (.inr (.inr r)), fun a q => ⟨fun r => r.1, fun r => ⟨r, fun r' => En.old a q (.inr (.inr r'))⟩⟩⟩
 have Z' : Pl g n u sc f le (cj.left total (I + 1) h' (fun a => c2.x a ∨ a = I + 2) fun a => c2.w a ∧ ¬ a = I + 2) { s' with heap := h' } := ⟨Z.Y, L.1, F2.enter En' fun a q r => r.2 q⟩
 show wpAny _ f.A (assign (.Name y py) f.env (.ref (I + 1))) _ _ _
 rw [PySem.assign_Name]
 refine wpAny_bind (wpAny_standAt (wpAny_mono (WL.store Z' (isLocal_eq hl) L.2.2 nofun) (fun _ s2 p => ?_) fun _ _ q => nomatch q.1))
 cases p with | mk le4 c4 e4 X4 A4 F4 =>
 have e4 := ok_inj e4
 cases e4.1
 refine ⟨mm, X4.heap ▸ Ns_keep (fun o e => (A4.keep _ o e (fun q => L.1.sep _ q (.inr rfl)) fun q => En'.old _ F2.inx (show f.L = I + 2 from Eq.symm q)).data) (L.1.heap ▸ D.ns), fun h4 same => ?_⟩
 have k4 : ∀ a o, c4.h.get? a = some o → ¬ a = I + 2 → h4.get? a = some o := fun a o ea na => (same.2 a na).trans (X4.heap ▸ ea)
 have T := X4.leaveP (P := own f) (s' := { s2 with heap := h4 }) En' (A4.weaken fun _ => .inr) k4 rfl rfl rfl (nlr _)
 exact ⟨(Fl.next, _), c4.re h4 c2.x c2.w, congrArg (O.ok _) e4.2, T.1, A.toP.trans T.2, rfl, F4.left F2 En' A4 k4⟩
end
section
variable {g : G} {mg mb : Str → Option Value} {cfg : Cfg} {n u : Nat}
theorem one?_at {α : Type} {l : List α} : (∃ a, l = [a]) ∨ one? l = none := by
 cases l with
 | nil => exact .inr rfl
 | cons a r => cases r with
  | nil => exact .inl ⟨a, rfl⟩
  | cons => exact .inr rfl
theorem ass_bad {t v : Expr} {pos : Pos} (h : ∀ sc le, ev cfg v sc le = M.bad) : ExOk g cfg n u (.Assign [t] v pos) := fun sc f le c s Z _ =>
 W.ite (m := M.bind (ev cfg v sc le) fun x => M.bind (Mine.assignTo cfg sc t x le) fun le' => M.pure (Fl.next, le')) fun _ => W.bad' (bind_bad (by rw [h]; rfl))
theorem ass_one (H : GOk g mg mb) (hk : TK g) (C : CallOk g cfg n u) {t v : Expr} {pos : Pos} {sc : Scope} {f : Fm} {le : LEnv} {c : Cx} {s : Shared} (Z : Pl g n u sc f le c s) (h : swapsWithSole [t] v pos.line f.env = pure false) :
  WL g f c s (exec (.Assign [t] v pos) f.env) (ex cfg sc (.Assign [t] v pos) le c.st) (ExR g sc f) :=
 W.ite (m := M.bind (ev cfg v sc le) fun x => M.bind (Mine.assignTo cfg sc t x le) fun le' => M.pure (Fl.next, le')) fun hs => by
  rw [exec_Assign_arm, h]
  exact W.standAt fun hb => wpAny_bind (wpAny_pure (WL.seqW (ownX Z.F) (ev_ok H hk C v Z) (fun a w c1 s1 X1 A1 r => WL.stores H hk C (Z.adv X1 A1) hs r) hb))
theorem swaps_other {e : Expr} {gs : List Comprehension} {cs : Scope} {p : Pos} {t : Expr} {k : Nat} {env : Env} (h : nameOf t = none) : swapsWithSole [t] (.ListComp e gs cs p) k env = pure false := by
 cases t <;> first | rfl | exact nomatch h
theorem ass_used (H : GOk g mg mb) (hk : TK g) (C : CallOk g cfg n u) {e it : Expr} {x y : Str} {px py p pos : Pos} {ifs : List Expr} {a : Int} {cs : Scope} {sc : Scope} {f : Fm} {le : LEnv} {c : Cx} {s : Shared} (Z : Pl g n u sc f le c s)
  (h : swapsWith (.ListComp e [⟨.Name x px, it, ifs, a⟩] cs p) (some (.Name y py)) pos.line f.env = pure true) :
  WL g f c s (exec (.Assign [.Name y py] (.ListComp e [⟨.Name x px, it, ifs, a⟩] cs p) pos) f.env) (M.bind (ev cfg (.ListComp e [⟨.Name x px, it, ifs, a⟩] cs p) sc le) (fun v => M.bind (Mine.assignTo cfg sc (.Name y py) v le) fun le' => M.pure (Fl.next, le')) c.st) (ExR g sc f) := by
 by_cases hc : ifs.isEmpty = true ∧ a = 0 ∧ compOk sc cs x = true
 case neg => exact W.bad' (bind_bad (congrFun (if_neg hc) _))
 have h1 := List.isEmpty_iff.mp hc.1
 have h2 := hc.2.1
 subst h1 h2
 have e1 : ev cfg (.ListComp e [⟨.Name x px, it, [], 0⟩] cs p) sc le = compM (ev cfg it sc le) fun v => ev cfg e cs (compEnv cs le x v) := if_pos hc
 rw [e1]
 by_cases hset : ∀ v, foldedSetIterable it f.env v = pure v
 ·exact ex_used (E := fun le => ev cfg e cs le) Z (compOk_of hc.2.2) hset h (ev_ok H hk C it Z) fun f' c' s' le' e1 e2 Y' X' F' => ev_ok H hk C e ⟨Y', X', F'⟩
 ·exact W.bad' (bind_bad (bind_bad (iter_bad hset)))
theorem ass_comp (H : GOk g mg mb) (hk : TK g) (C : CallOk g cfg n u) (t e : Expr) (gs : List Comprehension) (cs : Scope) (p pos : Pos) : ExOk g cfg n u (.Assign [t] (.ListComp e gs cs p) pos) := by
 cases hn : nameOf t with
 | none => exact fun _ _ _ _ _ Z _ => ass_one H hk C Z (swaps_other hn)
 | some y =>
  refine (comp_shape e gs cs p).elim ass_bad fun z => z.elim fun x z => z.elim fun px z => z.elim fun it z => z.elim fun ifs z => z.elim fun a z => (nameOf_eq hn).elim fun py q => ?_
  subst z q
  intro sc f le c s Z _
  have key : ∃ b, swapsWith (.ListComp e [⟨.Name x px, it, ifs, a⟩] cs p) (some (.Name y py)) pos.line f.env = pure b := ⟨_, rfl⟩
  refine key.elim fun b h => ?_
  cases b with
  | false => exact ass_one H hk C Z h
  | true => exact W.ite (p := swapOk (.Name y py) (.ListComp e [⟨.Name x px, it, ifs, a⟩] cs p) = true) fun _ => ass_used H hk C Z h
theorem ex_Assign (H : GOk g mg mb) (hk : TK g) (C : CallOk g cfg n u) (ts : List Expr) (v : Expr) (pos : Pos) : ExOk g cfg n u (.Assign ts v pos) := by
 refine one?_at.elim (fun z => z.elim fun t z => ?_) fun z _ _ _ _ _ _ _ => W.bad' (by show (match one? ts with | some t => _ | none => M.bad) _ = .bad; rw [z]; rfl)
 cases z
 cases hv : isComp v with
 | false =>
  cases h2 : setC v with
  | false => exact fun _ _ _ _ _ Z _ => ass_one H hk C Z (swaps_no hv h2)
  | true => exact ass_bad fun _ _ => ev_setC h2
 | true =>
  cases v with
  | ListComp e gs cs p => exact ass_comp H hk C t e gs cs p pos
  | _ => exact Bool.noConfusion hv
end
section
variable {g : G} {mg mb : Str → Option Value} {cfg : Cfg} {n u : Nat} {f : Fm} {c : Cx} {s : Shared} {sc cs : Scope} {le : LEnv} {P : Addr → Prop}
inductive Oks {α β : Type} (P : Addr → Prop) (g : G) (c : Cx) (R : Cx → β → α → Prop) (a : β) (st : MSt) (v : α) (s' : Shared) : Prop
 | mk (c' : Cx) (e : c'.st = st) (X : St g c' s') (A : AdvP P c c') (k : R c' a v)
theorem WP.oks {α β : Type} {t : Sem α} {r : O β} {R : Cx → β → α → Prop} {a : β} {st : MSt} (h : WP P g f c s t r R) (e : r = .ok a st) {E : Value → Shared → Prop} : wpAny (model g.prog g.w) f.A t (Oks P g c R a st) E s := by
 subst e
 refine wpAny_mono (h nofun) (fun v s' p => ?_) fun _ _ q => nomatch q.1
 cases p with | mk a' c' e X A k =>
 have e := ok_inj e
 cases e.1
 exact ⟨c', e.2.symm, X, A, k⟩
theorem noExc_bind {α β : Type} {m : M α} {l : α → M β} {st : MSt} {r : O β} (h : M.bind (noExc m) l st = r) (hr : r ≠ .bad) : ∃ a st1, m st = .ok a st1 ∧ l a st1 = r := by
 subst h
 exact (noExc_at fun q => hr (bind_bad q)).imp fun a z => z.imp fun st1 e => ⟨e, (bind_ok (noExc_ok e)).symm⟩
theorem opt_bind {α β : Type} {o : Option α} {l : α → M β} {st : MSt} {r : O β} (h : M.bind (M.opt o) l st = r) (hr : r ≠ .bad) : ∃ a, o = some a ∧ l a st = r := by
 cases o with
 | none => exact absurd h.symm hr
 | some a => exact ⟨a, rfl, h⟩
theorem body_end {p : Fl × LEnv} {fl : Flow} (r : ExR g sc f c p fl) {A1 D : Prop} {B : Value → Prop} (h1 : ∀ le, p = (.next, le) → FrSt g sc f le c → A1) (h2 : ∀ v le w, p = (.ret v, le) → MR c v w → B w) :
  (match (generalizing := false) fl with | .next | .cont => A1 | .brk => D | .ret v => B v) := by
 obtain ⟨fl0, le1⟩ := p
 cases fl0 with
 | next => cases r.1; exact h1 le1 rfl r.2
 | ret v => exact r.elim fun w q => by cases q.1; exact h2 v le1 w rfl q.2
inductive WhI (g : G) (sc : Scope) (f : Fm) (c0 : Cx) (L : Nat → Sx) (r : O (Fl × LEnv)) (k : Nat) (s : Shared) : Prop
 | mk (le : LEnv) (c : Cx) (X : St g c s) (A : AdvP (own f) c0 c) (F : FrSt g sc f le c) (e : L k le c.st = r)
theorem while_gen {t : Expr} {b : List Stmt} {pos : Pos} {T : LEnv → M Bool} {B : Sx} (hT : ∀ ⦃le : LEnv⦄ ⦃c : Cx⦄ ⦃s : Shared⦄, Pl g n u sc f le c s → W g f c s (isTrue t f.env (eval t f.env)) (T le c.st) EqB)
  (hB : ∀ ⦃le : LEnv⦄ ⦃c : Cx⦄ ⦃s : Shared⦄, Pl g n u sc f le c s → WL g f c s (execs b f.env) (B le c.st) (ExR g sc f)) (K : Nat) (Z : Pl g n u sc f le c s) : WL g f c s (exec (.While t b [] pos) f.env) (wloop T B K le c.st) (ExR g sc f) := fun hr => by
 generalize hres : wloop T B K le c.st = r at hr ⊢
 refine wpAny_While (codeAny_whileLoop (WhI g sc f c (wloop T B) r) (fun k s1 hi => ?_) K ⟨le, c, Z.X, .refl c, Z.F, hres⟩)
 cases hi with | mk le1 c1 X1 A1 F1 h1 =>
 cases k with
 | zero => exact absurd h1.symm hr
 | succ k =>
  have Z1 : Pl g n u sc f le1 c1 s1 := ⟨Z.Y, X1, F1⟩
  refine (noExc_bind (l := fun b' => if b' = true then M.bind (noExc (B le1)) fun p => goOn p (wloop T B k) else M.pure (.next, le1)) h1 hr).elim fun x z => z.elim fun st2 z => ?_
  refine wpAny_mono (WP.oks (hT Z1) z.1) (fun x' s2 p => ?_) fun _ _ q => q
  cases p with | mk c2 e2 X2 A2 q =>
  subst e2
  cases q
  have h2 := z.2
  cases x with
  | false => exact wpAny_execs_nil ⟨_, c2, h2.symm, X2, A1.trans A2.toP, rfl, F1.adv A2⟩
  | true =>
   refine (noExc_bind (l := fun p => goOn p (wloop T B k)) h2 hr).elim fun p z => z.elim fun st3 z => ?_
   refine wpAny_mono (WP.oks (hB (Z1.adv X2 A2)) z.1) (fun fl s3 q => ?_) fun _ _ q => q
   cases q with | mk c3 e3 X3 A3 r3 =>
   subst e3
   have A13 := (A1.trans A2.toP).trans A3
   refine body_end (B := fun w => Post (own f) g c r (ExR g sc f) (.ret w) s3) r3 (fun le3 e F3 => ?_) fun v le3 w e rw => ?_
   ·subst e; exact ⟨k, nls _, le3, c3, X3, A13, F3, z.2⟩
   ·subst e; exact ⟨(.ret v, le3), c3, z.2.symm, X3, A13, w, rfl, rw⟩
theorem ex_While (H : GOk g mg mb) (hk : TK g) (C : CallOk g cfg n u) (t : Expr) (b e : List Stmt) (pos : Pos) (hb : ExsOk g cfg n u b) : ExOk g cfg n u (.While t b e pos) := fun sc f le c s Z I =>
 W.ite (m := wloop (fun le => tst cfg t sc le) (fun le => exs cfg sc b le) cfg.K le) fun he => by
  cases List.isEmpty_iff.mp he
  exact while_gen (fun _ _ _ Z => tst_ok H hk C t Z) (fun _ _ _ Z => hb Z I) cfg.K Z
noncomputable abbrev owners : List String := ["enumerate", "zip", "dict_itemiterator", "dict_reverseitemiterator", "odict_iterator", "itertools.zip_longest", "itertools.pairwise"]
inductive DrawnI (g : G) (I : Addr) (v : MV) (It : Nat → Cx → Shared → Prop) (j : Nat) (c : Cx) (r : Option Value) (s1 : Shared) : Prop
 | mk (w : Value) (c1 : Cx) (e : r = some w) (st : c1.st = c.st) (X : St g c1 s1) (A : AdvP (fun a => a = I) c c1) (k : MR c1 v w) (it : It (j + 1) c1 s1)
inductive Dry (I : Addr) (s : Shared) (r : Option Value) (s1 : Shared) : Prop
 | mk (h' : Heap) (e : r = none) (e2 : s1 = { s with heap := h' }) (ext : Heap.ExtBut I s.heap h')
structure ItOk (g : G) (A : Around) (I : Addr) (its : List MV) (It : Nat → Cx → Shared → Prop) : Prop where
 item : ∀ {j v rest c s}, its.drop j = v :: rest → St g c s → c.x I → It j c s → ∀ {E}, wpAny (model g.prog g.w) A (pyNext (.ref I)) (DrawnI g I v It j c) E s
 fin : ∀ {j c s}, its.drop j = [] → St g c s → It j c s → ∀ {E}, wpAny (model g.prog g.w) A (pyNext (.ref I)) (Dry I s) E s
 keep : ∀ {j c c' s s'}, It j c s → (∀ o, s.heap.get? I = some o → s'.heap.get? I = some o) → Up c c' → It j c' s'
 go : ∀ {j c s}, It j c s → ∃ o T, s.heap.get? I = some o ∧ o.cls = .type T ∧ owners.contains T = false
theorem letGo_quiet {A : Around} {E : Value → Shared → Prop} {target : Expr} {I : Addr} {v : Value} {Q : Unit → Shared → Prop} {o : Obj} {T : String} (ho : s.heap.get? I = some o) (hT : o.cls = .type T) (hq : owners.contains T = false) (h : Q () s) :
  wpAny (model g.prog g.w) A (letOwnedTupleGo target (.ref I) v) Q E s := by
 have key : wpAny (model g.prog g.w) A (do
   let (.ref r, .ref a) := (Value.ref I, v) | return
   let o ← load r
   match o.cls, o.data with
   | .type n, .fields vs =>
    if owners.contains n && vs[0]? == some (rawInt a) then
     rule "for.unpacks-the-owned-tuple"
     updateField r 0 .none
   | _, _ => pure ()) Q E s := by
  cases v with
  | ref a =>
   refine wpAny_bind (wpAny_load ho ?_)
   rw [hT]
   cases o.data with
   | fields vs => dsimp only; rw [hq]; exact wpAny_pure h
   | _ => exact wpAny_pure h
  | _ => exact wpAny_pure h
 cases target with
 | Tuple => exact key
 | List => exact key
 | _ => exact wpAny_pure h
theorem bindFor_assign {T : Expr} {v : MV} {le le' : LEnv} {st : MSt} (h : bindFor sc T v le = some le') : Mine.assignTo cfg sc T v le st = .ok le' st := by
 cases T with
 | Name x p =>
  by_cases hl : isLocal sc x = true
  ·cases (if_pos hl).symm.trans h
   exact congrFun (if_pos hl) st
  ·exact nos ((if_neg hl).symm.trans h)
 | Tuple ts k p =>
  cases v with
  | d x =>
   cases x with
   | tup l =>
    have h : bindNames sc ts (l.map .d) le = some le' := h
    show M.opt (bindNames sc ts (l.map .d) le) st = _
    rw [h]
    rfl
   | _ => exact nos h
  | _ => exact nos h
 | _ => exact nos h
end
section
variable {g : G} {mg mb : Str → Option Value} {cfg : Cfg} {n u : Nat} {f : Fm} {c : Cx} {s : Shared} {sc cs : Scope} {le : LEnv} {y : Addr → Prop}
def ForPost (g : G) (sc : Scope) (f : Fm) (c : Cx) (r : O (Fl × LEnv)) (Ex : Value → Shared → Prop) (q : Result) (s' : Shared) : Prop :=
 match q with | .ok fl => Post (own f) g c r (ExR g sc f) fl s' | .error e => Ex e s'
inductive ForI (g : G) (sc : Scope) (f : Fm) (I : Addr) (its : List MV) (It : Nat → Cx → Shared → Prop) (L : List MV → Sx) (r : O (Fl × LEnv)) (c0 : Cx) (k : Nat) (s : Shared) : Prop
 | mk (j : Nat) (le : LEnv) (c : Cx) (hk : k = (its.drop j).length) (X : St g c s) (A : AdvP (fun a => a = I ∨ own f a) c0 c) (F : FrSt g sc f le c) (it : It j c s) (e : L (its.drop j) le c.st = r)
theorem for_gen {t : Expr} {b : List Stmt} {B : Sx} (hT : ∀ ⦃le : LEnv⦄ ⦃c : Cx⦄ ⦃s : Shared⦄ ⦃v : MV⦄ ⦃w : Value⦄ ⦃le' : LEnv⦄, Pl g n u sc f le c s → MR c v w → bindFor sc t v le = some le' → WL g f c s (assign t f.env w) (.ok le' c.st) (LeR g sc f))
  (hB : ∀ ⦃le : LEnv⦄ ⦃c : Cx⦄ ⦃s : Shared⦄, Pl g n u sc f le c s → WL g f c s (execs b f.env) (B le c.st) (ExR g sc f)) {c0 c3 : Cx} {s0 s3 : Shared} {I : Addr} {its : List MV} {It : Nat → Cx → Shared → Prop}
  (Z : Pl g n u sc f le c0 s0) (X3 : St g c3 s3) (F3 : FrSt g sc f le c3) (En : Enter (fun a => a = I) c0 c3) (wI : ¬ c3.w I) (ok : ItOk g f.A I its It) (h0 : It 0 c3 s3) {r : O (Fl × LEnv)} (hr : r ≠ .bad) (hl : floop (bindFor sc t) B its le c3.st = r) {Ex : Value → Shared → Prop} :
  codeAny (model g.prog g.w) f.A (.forLoop t (.ref I) b [] f.env) (ForPost g sc f c0 r Ex) s3 := by
 have nOwn : ¬ own f I := fun q => En.old _ Z.F.inx q.symm
 have xI : c3.x I := (En.x I).mpr (.inr rfl)
 refine codeAny_forLoop_any (ForI g sc f I its It (floop (bindFor sc t) B) r c3) (fun k s' hi => ?_) its.length ⟨0, le, c3, rfl, X3, .refl c3, F3, h0, hl⟩
 cases hi with | mk j le1 cj hkk Xj Aj Fj hit hfl =>
 have xIj : cj.x I := Aj.x ▸ xI
 cases hd : its.drop j with
 | nil =>
  refine wpAny_mono (ok.fin hd Xj hit) (fun q s1 p => ?_) fun _ _ e => e
  cases p with | mk h' hq hs1 ext =>
  subst hq hs1
  rw [hd] at hfl
  have kk : ∀ a o, cj.h.get? a = some o → ¬ a = I → h'.get? a = some o := fun a o e na => ext a o na (Xj.heap ▸ e)
  have T := Xj.leaveP (P := own f) (s' := { s' with heap := h' }) En Aj kk rfl rfl rfl (nlr _)
  exact wpAny_execs_nil ⟨_, cj.re h' c0.x c0.w, hfl.symm, T.1, T.2, rfl, Fj.left Z.F En Aj kk⟩
 | cons v rest =>
  refine wpAny_mono (ok.item hd Xj xIj hit) (fun q s1 p => ?_) fun _ _ e => e
  cases p with | mk w c1 hq st1 X1 A1 r1 hit1 =>
  subst hq
  refine (ok.go hit1).elim fun o z => z.elim fun T z => letGo_quiet z.1 z.2.1 z.2.2 ?_
  rw [hd] at hfl
  refine (opt_bind (l := fun le1 => M.bind (noExc (B le1)) fun p => goOn p (floop (bindFor sc t) B rest)) hfl hr).elim fun le2 z => (noExc_bind (l := fun p => goOn p (floop (bindFor sc t) B rest)) z.2 hr).elim fun p y => y.elim fun st4 y => ?_
  have F1 : FrSt g sc f le1 c1 := Fj.advP A1 (fun a q => q ▸ xIj) (fun q => nOwn q.symm) fun e he a ha q => absurd q (En.old _ (Z.F.frO e he a ha).2.1)
  have Z1 : Pl g n u sc f le1 c1 s1 := ⟨Z.Y, X1, F1⟩
  refine wpAny_mono (WP.oks (hT Z1 r1 z.1) rfl) (fun _ s2 p => ?_) fun _ _ q => q
  cases p with | mk c2 e2 X2 A2 F2 =>
  have e2 := e2.trans st1
  rw [← e2] at y
  refine wpAny_mono (WP.oks (hB ⟨Z.Y, X2, F2⟩) y.1) (fun fl s4 q => ?_) fun _ _ q => q
  cases q with | mk c4 e4 X4 A4 r4 =>
  subst e4
  have A24 := A2.trans A4
  have A14 : AdvP (fun a => a = I ∨ own f a) c3 c4 := Aj.trans ((A1.weaken fun _ => .inl).trans (A24.weaken fun _ => .inr))
  refine body_end (B := fun w => Post (own f) g c0 r (ExR g sc f) (.ret w) s4) r4 (fun le4 e F4 => ?_) fun v0 le4 w0 e rw0 => ?_
  ·subst e
   have hdr : its.drop (j + 1) = rest := by rw [← List.drop_drop, hd]; rfl
   refine ⟨rest.length, by rw [hkk, hd]; exact nls _, j + 1, le4, c4, by rw [hdr], X4, A14, F4, ok.keep hit1 (fun o ho => ?_) (A24.up (ownX F1)), by rw [hdr]; exact y.2⟩
   cases A24.keep I o (X1.heap ▸ ho) (fun q => X1.sep _ q (A1.x ▸ xIj)) nOwn with | mk o' e' _ kx =>
   cases kx fun q => wI (by have := q.2; rw [A1.w, Aj.w] at this; exact this)
   exact X4.heap ▸ e'
  ·subst e
   have T := X4.leaveP (P := own f) (s' := s4) En A14 (fun _ _ e _ => e) X4.heap rfl rfl (nlr _)
   have U4 : Up c4 (c4.re c4.h c0.x c0.w) := ⟨fun a o e nn => ⟨e, fun z => nn (z.imp id fun z => by rw [A14.x]; exact (En.x a).mpr (.inl z))⟩, nlr _, fun _ _ => rfl, fun _ _ h => h⟩
   exact ⟨(.ret v0, le4), c4.re c4.h c0.x c0.w, y.2.symm, T.1, T.2, w0, rfl, MR.up U4 _ _ rw0⟩
inductive Ent1 (g : G) (c : Cx) (I : Addr) (h' : Heap) (s' : Shared) : Prop
 | mk (c3 : Cx) (X : St g c3 s') (En : Enter (fun a => a = I) c c3) (e : c3.st = c.st) (w : ¬ c3.w I) (h : c3.h = h')
theorem St.enter1 {s' : Shared} (X : St g c s) {o : Obj} (hf : o.isFreed = false) (hs : s'.heap = s.heap.push o) (hg : s'.gens = s.gens) (ho : s'.os = s.os) (ht : s.toks ≤ s'.toks) : Ent1 g c s.heap.objs.size (s.heap.push o) s' := by
 have noneAt : c.h.get? s.heap.objs.size = none := X.heap ▸ Heap.get?_none_of_le (nlr _)
 have T := X.enter (y := fun a => a = s.heap.objs.size) (fun a => c.w a ∧ ¬ a = s.heap.objs.size) (fun a q => ⟨fun z => z.1, fun z => ⟨z, fun hb => (X.xlt a q).elim fun o eo => by rw [hb, noneAt] at eo; cases eo⟩⟩) (s' := s') (h' := s.heap.push o)
  (fun _ _ e => Heap.get?_push_of_some _ (X.heap ▸ e)) (fun a q => by subst q; exact ⟨noneAt, _, Heap.get?_push_size _ hf⟩) hs hg ho ht
 exact ⟨_, T.1, T.2, rfl, fun q => q.2 rfl, rfl⟩
theorem drop_at {α : Type} {l : List α} {j : Nat} {v : α} {rest : List α} (h : l.drop j = v :: rest) : l[j]? = some v := by
 have := List.getElem?_drop (xs := l) (i := j) (j := 0)
 rw [h, Nat.add_zero] at this
 exact this.symm
theorem drop_nil_at {α : Type} {l : List α} {j : Nat} (h : l.drop j = []) : l[j]? = none := List.getElem?_eq_none (List.drop_eq_nil_iff.mp h)
theorem turn1 {I : Addr} (X : St g c s) (xI : c.x I) {h' : Heap} (same : Heap.SameBut I s.heap h') (e : ∃ o, h'.get? I = some o) : St g (c.he h') { s with heap := h' } ∧ AdvP (fun a => a = I) c (c.he h') :=
 X.turnX (y := fun a => a = I) (a := I) (s' := { s with heap := h' }) (h' := h') rfl (fun a q => q ▸ xI) (fun b o nb eb => (same.2 b nb).trans (X.heap ▸ eb)) e rfl rfl rfl (nlr _)
structure ItL (ds : List D) (items : Array Value) (nn ad I : Nat) (j : Nat) (c : Cx) (s : Shared) : Prop where
 it : s.heap.IsListIter I ad j
 e : c.h.get? ad = some (seqO "list" items nn)
 n : ¬ c.S ad
 r : VRs c.S c.h c.n ds items.toList
theorem it_list (Y : FmOk sc f n u) {I ad : Addr} {ds : List D} {items : Array Value} {nn : Nat} : ItOk g f.A I (ds.map MV.d) (ItL ds items nn ad I) where
 item {j v rest c s} hd X xI K E := by
  have iad : s.heap.IsList ad items := ⟨_, X.heap ▸ K.e, rfl, _, rfl⟩
  refine ((MRs.of_d K.r).get (drop_at hd)).elim fun w q => wpAny_pyNext_list_item K.it iad (Array.getElem?_toList ▸ q.1) fun h' hit' same1 => ?_
  have T := turn1 X xI same1 (hit'.imp fun _ q => q.1)
  have U := T.2.up fun a q => q ▸ xI
  exact ⟨w, c.he h', rfl, rfl, T.1, T.2, MR.up U _ _ q.2, hit', (U.k ad _ K.e K.n).1, (U.k ad _ K.e K.n).2, VRs.mono U.n U.k _ _ K.r⟩
 fin {j c s} hd X K E := by
  have h : items[j]? = none := Array.getElem?_eq_none (by have := List.drop_eq_nil_iff.mp hd; rw [llm, K.r.length] at this; exact this)
  exact wpAny_pyNext_list_end Y.hd K.it ⟨_, X.heap ▸ K.e, rfl, _, rfl⟩ h fun h' ext => ⟨h', rfl, rfl, ext⟩
 keep {j c c' s s'} K hk U := ⟨K.it.imp fun o q => ⟨hk o q.1, q.2⟩, (U.k ad _ K.e K.n).1, (U.k ad _ K.e K.n).2, VRs.mono U.n U.k _ _ K.r⟩
 go K := K.it.elim fun o q => ⟨o, _, q.1, q.2.1, by decide⟩
theorem range_at {k j : Nat} {v : MV} (h : (rangeItems k)[j]? = some v) : j < k ∧ v = .d (.int (j : Int)) := by
 unfold rangeItems at h
 rw [List.getElem?_map] at h
 refine (mes h).elim fun i q => ?_
 have := List.getElem?_eq_some_iff.mp q.1
 exact this.elim fun hlt e => by
  rw [List.getElem_range] at e
  rw [List.length_range] at hlt
  exact ⟨hlt, by rw [e]; exact q.2.symm⟩
theorem it_range (Y : FmOk sc f n u) {I : Addr} {k : Nat} : ItOk g f.A I (rangeItems k) (fun j _ s => IsRangeIter s.heap I (j : Int) ((k : Int) - (j : Int)) 1) where
 item {j v rest c s} hd X xI hit E := by
  have h := range_at (drop_at hd)
  refine wpAny_pyNext_range_item hit (by have := h.1; omega) fun h' hit' same1 => ?_
  have T := X.turnX (y := fun a => a = I) (a := I) (s' := { s with heap := h', toks := s.toks + 1 }) (h' := h') rfl (fun a q => q ▸ xI) (fun b o nb eb => (same1.2 b nb).trans (X.heap ▸ eb)) ⟨_, hit'⟩ rfl rfl rfl (Nat.le_succ _)
  refine ⟨_, c.he h', rfl, rfl, T.1, T.2, h.2 ▸ ⟨_, rfl⟩, ?_⟩
  rw [show (k : Int) - ((j + 1 : Nat) : Int) = (k : Int) - (j : Int) - 1 by omega]
  exact hit'
 fin {j c s} hd X hit E := wpAny_pyNext_range_end Y.hd hit (by have := List.drop_eq_nil_iff.mp hd; unfold rangeItems at this; rw [llm, List.length_range] at this; omega) fun h' ext => ⟨h', rfl, rfl, ext⟩
 keep hit hk _ := hk _ hit
 go hit := ⟨_, _, hit, rfl, by decide⟩
theorem it_str (Y : FmOk sc f n u) {I : Addr} {l : List Nat} {t : Nat} {ty : String} (hty : ty = "str_ascii_iterator" ∨ ty = "str_iterator") : ItOk g f.A I (l.map fun x => MV.d (.str [x])) (fun j _ s => s.heap.IsStrIter I ty ⟨l.toArray⟩ t j) where
 item {j v rest c s} hd X xI hit E := by
  have h := drop_at hd
  rw [List.getElem?_map] at h
  refine (mes h).elim fun x q => ?_
  have hx : (⟨l.toArray⟩ : Str).cps[j]? = some x := (Array.getElem?_toList (xs := l.toArray)).symm.trans q.1
  have go : ∀ h', h'.IsStrIter I ty ⟨l.toArray⟩ t (j + 1) → Heap.SameBut I s.heap h' → DrawnI g I v (fun j _ s => s.heap.IsStrIter I ty ⟨l.toArray⟩ t j) j c (some (Value.str ⟨#[x]⟩ s.toks)) { s with heap := h', toks := s.toks + 1 } := fun h' hit' same1 => by
   have T := turn1 X xI same1 (hit'.imp fun _ q => q.1)
   have T2 := T.1.more (s' := { s with heap := h', toks := s.toks + 1 }) rfl rfl rfl [x] (nls _)
   exact ⟨_, (c.he h').tok { s with heap := h' } [x], rfl, rfl, T2.1, T.2.trans T2.2.toP, q.2 ▸ ⟨_, rfl, .inr ⟨rfl, rfl⟩⟩, hit'⟩
  exact hty.elim (fun e => by subst e; exact wpAny_pyNext_ascii_item hit hx go) fun e => by subst e; exact wpAny_pyNext_wide_item hit hx go
 fin {j c s} hd X hit E := by
  have hx : (⟨l.toArray⟩ : Str).cps[j]? = none := Array.getElem?_eq_none (by have := List.drop_eq_nil_iff.mp hd; rw [llm] at this; exact this)
  exact hty.elim (fun e => by subst e; exact wpAny_pyNext_ascii_end Y.hd hit hx fun h' ext => ⟨h', rfl, rfl, ext⟩) fun e => by subst e; exact wpAny_pyNext_wide_end Y.hd hit hx fun h' ext => ⟨h', rfl, rfl, ext⟩
 keep hit hk _ := hit.imp fun o q => ⟨hk o q.1, q.2⟩
 go hit := hit.elim fun o q => ⟨o, _, q.1, q.2.1, hty.elim (fun e => by subst e; decide) fun e => by subst e; decide⟩
end
section
variable {g : G} {mg mb : Str → Option Value} {cfg : Cfg} {n u : Nat} {f : Fm} {c : Cx} {s : Shared} {sc cs : Scope} {le : LEnv} {y : Addr → Prop}
structure ForOk (g : G) (n u : Nat) (sc : Scope) (f : Fm) (t : Expr) (b : List Stmt) (B : Sx) : Prop where
 hT : ∀ ⦃le : LEnv⦄ ⦃c : Cx⦄ ⦃s : Shared⦄ ⦃v : MV⦄ ⦃w : Value⦄ ⦃le' : LEnv⦄, Pl g n u sc f le c s → MR c v w → bindFor sc t v le = some le' → WL g f c s (assign t f.env w) (.ok le' c.st) (LeR g sc f)
 hB : ∀ ⦃le : LEnv⦄ ⦃c : Cx⦄ ⦃s : Shared⦄, Pl g n u sc f le c s → WL g f c s (execs b f.env) (B le c.st) (ExR g sc f)
theorem ForPost.back {c1 : Cx} {r : O (Fl × LEnv)} {Ex : Value → Shared → Prop} {q : Result} {s' : Shared} (A : AdvP (own f) c c1) : ForPost g sc f c1 r Ex q s' → ForPost g sc f c r Ex q s' := fun h => by
 cases q with
 | ok fl => exact Post.back A h
 | error e => exact h
theorem for_new {t : Expr} {b : List Stmt} {B : Sx} (K : ForOk g n u sc f t b B) (Z : Pl g n u sc f le c s) {o : Obj} (hf : o.isFreed = false) {its : List MV} {It : Nat → Cx → Shared → Prop} (ok : ItOk g f.A s.heap.objs.size its It)
  (h0 : ∀ c', Up c c' → It 0 c' { s with heap := s.heap.push o }) {r : O (Fl × LEnv)} (hr : r ≠ .bad) (hl : floop (bindFor sc t) B its le c.st = r) {Ex : Value → Shared → Prop} :
  codeAny (model g.prog g.w) f.A (.forLoop t (.ref s.heap.objs.size) b [] f.env) (ForPost g sc f c r Ex) { s with heap := s.heap.push o } := by
 cases Z.X.enter1 (s' := { s with heap := s.heap.push o }) hf rfl rfl rfl (nlr _) with | mk c3 X3 En st3 w3 h3 =>
 exact for_gen K.hT K.hB Z X3 (Z.F.enter En fun a q => by rw [q]; exact w3) En w3 ok (h0 c3 En.up) hr (by rw [st3]; exact hl)
theorem for_iter {t : Expr} {b : List Stmt} {B : Sx} (K : ForOk g n u sc f t b B) (Z : Pl g n u sc f le c s) {v : MV} {w : Value} (r : MR c v w) {res : O (Fl × LEnv)} (hr : res ≠ .bad)
  (hl : M.bind (iterOf v) (fun l => floop (bindFor sc t) B l le) c.st = res) {E Ex : Value → Shared → Prop} :
  wpAny (model g.prog g.w) f.A (pyIter w) (fun it s2 => codeAny (model g.prog g.w) f.A (.forLoop t it b [] f.env) (ForPost g sc f c res Ex) s2) E s := by
 unfold iterOf at hl
 cases es : v.str? with
 | some l =>
  rw [es] at hl
  refine (r.str es).elim fun t0 q => ?_
  cases q.1
  cases ha : (⟨l.toArray⟩ : Str).cps.all (· < 128) with
  | true => exact wpAny_pyIter_ascii ha (for_new K Z rfl (it_str Z.Y (.inl rfl)) (fun _ _ => ⟨_, Heap.get?_push_size _ rfl, rfl, rfl⟩) hr hl)
  | false => exact wpAny_pyIter_wide ha (for_new K Z rfl (it_str Z.Y (.inr rfl)) (fun _ _ => ⟨_, Heap.get?_push_size _ rfl, rfl, rfl⟩) hr hl)
 | none =>
  rw [es] at hl
  have hl : M.bind (M.bind (frzM v) fun l => M.pure (l.map .d)) (fun l => floop (bindFor sc t) B l le) c.st = res := hl
  rw [bind_assoc] at hl
  cases frzM_at fun q => hr (hl.symm.trans (bind_bad q)) with | mk ds st' hf e =>
  have hl := (bind_ok e).symm.trans hl
  have F1 := frz_sound 6 Z.X r hf
  have Y2 := Z.X.less F1.L
  cases F1.r with | mk ad items nn e3 g3 n3 r3 =>
  cases e3
  exact wpAny_pyIter_list (items := items) ⟨_, Y2.1.heap ▸ g3, rfl, _, rfl⟩ (codeAny_mono (for_new K (Z.adv Y2.1 Y2.2) rfl (it_list (ds := ds) (items := items) (nn := nn) (ad := ad) Z.Y) (fun c' U => ⟨⟨_, Heap.get?_push_size _ rfl, rfl, rfl⟩, (U.k ad _ g3 n3).1, (U.k ad _ g3 n3).2, VRs.mono U.n U.k _ _ r3⟩) hr hl) fun _ _ h => h.back Y2.2.toP)
def RangeAt (k : Nat) (c : Cx) (v : Value) : Prop := ∃ r t u w, v = .ref r ∧ c.h.get? r = some { cls := .type "range", data := .fields #[.int 0 t, .int (k : Int) u, .int 1 w] }
theorem rangeSize_nat (k : Nat) : Builtin.Range.rangeSize 0 (k : Int) 1 = (k : Int) := by
 rw [rangeSize_one]; split <;> omega
theorem W.range (X : St g c s) {a : MV} {v : Value} (r : MR c a v) : W g f c s (PySem.call (.type "range") [v] []) (rngM a c.st) (fun c' l v => ∃ k : Nat, k ≤ 64 ∧ l = rangeItems k ∧ RangeAt k c' v) := by
 unfold Mine.rngM
 cases e : a.int? with
 | none => exact .bad
 | some i =>
  refine (r.int e).elim fun t q => ?_
  cases q
  refine W.ite fun hk _ => call_range_1 ?_
  have Y := X.push { cls := .type "range", data := .fields #[.int 0 s.toks, .int i t, .int 1 (s.toks + 1)] } (s' := { s with heap := s.heap.push { cls := .type "range", data := .fields #[.int 0 s.toks, .int i t, .int 1 (s.toks + 1)] }, toks := s.toks + 1 + 1 }) rfl rfl rfl (Nat.le_succ_of_le (Nat.le_succ _))
  have hi : ((i.toNat : Nat) : Int) = i := Int.toNat_of_nonneg hk.1
  refine ⟨_, c.he (c.h.push _), rfl, Y.1, Y.2, i.toNat, by omega, rfl, s.heap.objs.size, s.toks, t, s.toks + 1, rfl, ?_⟩
  rw [hi]
  show (c.h.push _).get? _ = _
  rw [← X.heap]
  exact Heap.get?_push_size _ rfl
theorem rangeOf_eq {it : Expr} {p : Str × Expr} (h : rangeOf it = some p) : ∃ p1 p2, it = .Call (.Name p.1 p1) [p.2] [] p2 := by
 cases it with
 | Call f args kws p2 =>
  refine (bes h).elim fun r z => (bes z.2).elim fun e y => (nameOf_eq z.1).elim fun p1 q => ?_
  cases q
  cases one?_eq y.1
  cases kws with
  | nil => cases y.2; exact ⟨p1, p2, rfl⟩
  | cons => exact nos y.2
 | _ => exact nos h
theorem isRange_eq {r : Str} (h : isRange cfg sc le r = true) : evName cfg.T sc r le = some (.d (.typ "range")) := by
 unfold isRange at h
 cases e : evName cfg.T sc r le with
 | none => rw [e] at h; exact Bool.noConfusion h
 | some v =>
  rw [e] at h
  cases v with
  | d x =>
   cases x with
   | typ q => rw [of_decide_eq_true h]
   | _ => exact Bool.noConfusion h
  | _ => exact Bool.noConfusion h
theorem star_bad {e : Expr} {st : MSt} (h : ¬ notStar e = true) : ev cfg e sc le st = .bad := by
 cases e <;> first | rfl | exact absurd rfl h
theorem iterM_set {it : Expr} {env : Env} {st : MSt} (h : ¬ ∀ v, foldedSetIterable it env v = pure v) : iterM cfg sc it le st = .bad := by
 cases it <;> first | exact absurd (fun _ => rfl) h | rfl
theorem W.callRange (H : GOk g mg mb) (hk : TK g) (C : CallOk g cfg n u) (Z : Pl g n u sc f le c s) {r : Str} {e : Expr} {p1 p2 : Pos} (hr : isRange cfg sc le r = true) (hst : notStar e = true) :
  W g f c s (eval (.Call (.Name r p1) [e] [] p2) f.env) (M.bind (ev cfg e sc le) rngM c.st) (fun c' l v => ∃ k : Nat, k ≤ 64 ∧ l = rangeItems k ∧ RangeAt k c' v) := fun hb => by
 have he : eval (.Call (.Name r p1) [e] [] p2) f.env = (eval (.Name r p1) f.env >>= fun fv => PySem.callWith p2 fv [] (backTo p2 (starEach [e] f.env)) (backToKw p2 (keywordEach [] f.env))) := rfl
 rw [he, backTo_plain (show List.all [e] notStar = true from (Bool.and_true _).trans hst)]
 have hn : ev cfg (.Name r p1) sc le c.st = .ok (.d (.typ "range")) c.st := by
  show M.opt _ _ = _
  rw [isRange_eq hr]; rfl
 refine wpAny_bind (wpAny_mono (WP.oks (ev_ok H hk C (.Name r p1) Z) hn) (fun fv s1 p => ?_) fun _ _ q => q)
 cases p with | mk c1 e1 X1 A1 r1 =>
 cases (r1 : fv = .type "range")
 have Z1 := Z.adv X1 A1
 have h := W.callWith (pos := p2) (fv := .type "range") (first := []) (m := evs cfg [e] sc le) (k := on1 rngM) plain_any (evs_of (fun e _ => ev_ok H hk C e) Z1) fun a v c2 s2 X2 A2 ra hb => ⟨keep_type, on1_W (tm := fun v => call (.type "range") v []) ra fun a va r => W.range X2 r⟩
 have e2 : M.bind (evs cfg [e] sc le) (on1 rngM) = M.bind (ev cfg e sc le) rngM := funext fun st => by
  show M.bind (M.bind (ev cfg e sc le) fun v => M.bind (M.pure []) fun vs => M.pure (v :: vs)) (on1 rngM) st = _
  rw [bind_assoc]
  rfl
 rw [e2, e1] at h
 exact WP.at_ (noP c) A1 h hb
theorem for_data (H : GOk g mg mb) (hk : TK g) (C : CallOk g cfg n u) {t it : Expr} {b : List Stmt} {pos : Pos} {B : Sx} (K : ForOk g n u sc f t b B) (Z : Pl g n u sc f le c s) (hs : ∀ v, foldedSetIterable it f.env v = pure v) :
  WL g f c s (exec (.For t it b [] pos) f.env) (M.bind (ev cfg it sc le) (fun v => M.bind (iterOf v) fun l => floop (bindFor sc t) B l le) c.st) (ExR g sc f) := fun hr => by
 generalize hres : M.bind (ev cfg it sc le) (fun v => M.bind (iterOf v) fun l => floop (bindFor sc t) B l le) c.st = res at hr ⊢
 refine wpAny_For (wpAny_mono (ev_ok H hk C it Z fun q => hr (hres.symm.trans (bind_bad q))) (fun w s1 p => ?_) fun e s1 hx => ⟨hres.symm.trans (bind_exc hx.1), hx.2.toP⟩) hs
 cases p with | mk v c1 e1 X1 A1 r1 =>
 exact wpAny_mono (for_iter K (Z.adv X1 A1) r1 hr ((bind_ok e1).symm.trans hres)) (fun i s2 h => codeAny_mono h fun q s3 h => ForPost.back (q := q) A1.toP h) fun _ _ e => e
theorem for_range (H : GOk g mg mb) (hk : TK g) (C : CallOk g cfg n u) {t e : Expr} {r : Str} {b : List Stmt} {pos p1 p2 : Pos} {B : Sx} (K : ForOk g n u sc f t b B) (Z : Pl g n u sc f le c s) (hq : isRange cfg sc le r = true) :
  WL g f c s (exec (.For t (.Call (.Name r p1) [e] [] p2) b [] pos) f.env) (M.bind (M.bind (ev cfg e sc le) rngM) (fun l => floop (bindFor sc t) B l le) c.st) (ExR g sc f) := fun hr => by
 generalize hres : M.bind (M.bind (ev cfg e sc le) rngM) (fun l => floop (bindFor sc t) B l le) c.st = res at hr ⊢
 by_cases hst : notStar e = true
 case neg => exact absurd (hres.symm.trans (bind_bad (bind_bad (star_bad hst)))) hr
 refine wpAny_For (wpAny_mono (W.callRange H hk C Z (p1 := p1) (p2 := p2) hq hst fun q => hr (hres.symm.trans (bind_bad q))) (fun w s1 p => ?_) fun e s1 hx => ⟨hres.symm.trans (bind_exc hx.1), hx.2.toP⟩)
 cases p with | mk l c1 e1 X1 A1 r1 =>
 refine r1.elim fun k z => z.2.2.elim fun r y => y.elim fun t1 y => y.elim fun t2 y => y.elim fun t3 y => ?_
 have hres := (bind_ok e1).symm.trans hres
 cases z.2.1
 cases y.1
 have hk1 : (k : Int) ≤ 64 := Int.ofNat_le.mpr z.1
 refine wpAny_pyIter_range (a := 0) (b := (k : Int)) (c := 1) (X1.heap ▸ y.2) (small_one (by decide) (by decide) (Int.le_trans (by decide) (Int.natCast_nonneg k)) (Int.lt_of_le_of_lt hk1 (by decide))) ?_
 rw [rangeSize_nat]
 have e0 : (k : Int) - ((0 : Nat) : Int) = k := Int.sub_zero _
 exact codeAny_mono (for_new K (Z.adv X1 A1) rfl (it_range (k := k) Z.Y) (fun _ _ => by rw [e0]; exact Heap.get?_push_size _ rfl) hr hres) fun q _ h => ForPost.back (q := q) A1.toP h
theorem ex_For (H : GOk g mg mb) (hk : TK g) (C : CallOk g cfg n u) (t it : Expr) (b e : List Stmt) (pos : Pos) (hb : ExsOk g cfg n u b) : ExOk g cfg n u (.For t it b e pos) := fun sc f le c s Z I =>
 W.ite (m := M.bind (iterM cfg sc it le) fun l => floop (bindFor sc t) (fun le => exs cfg sc b le) l le) fun he => by
  cases List.isEmpty_iff.mp he
  have K : ForOk g n u sc f t b (fun le => exs cfg sc b le) := ⟨fun le c s v w le' Z r h => (bindFor_assign (cfg := cfg) (st := c.st) h) ▸ WL.assignTo H hk C Z t r, fun _ _ _ Z => hb Z I⟩
  generalize (fun le => exs cfg sc b le) = B at K ⊢
  by_cases hs : ∀ v, foldedSetIterable it f.env v = pure v
  case neg => exact W.bad' (bind_bad (iterM_set hs))
  unfold iterM
  cases hc : rangeOf it with
  | none =>
   dsimp only
   rw [bind_assoc]
   exact for_data H hk C K Z hs
  | some p =>
   dsimp only
   by_cases hq : isRange cfg sc le p.1 = true
   case neg => rw [if_neg hq]; exact W.bad' (bind_bad rfl)
   rw [if_pos hq]
   refine (rangeOf_eq hc).elim fun p1 z => z.elim fun p2 z => ?_
   subst z
   exact for_range H hk C K Z hq
end
theorem zip_lookup {α : Type} : ∀ {ps : List Str} {vs : List α}, ps.length = vs.length → ∀ x ∈ ps, ((ps.zip vs).lookup x).isSome = true
 | p :: ps, v :: vs, h, x, hx => by
  rw [List.zip_cons_cons, List.lookup_cons]
  by_cases q : x = p
  ·rw [beq_iff_eq.mpr q]; rfl
  ·rw [beq_false_of_ne q]
   exact zip_lookup (Nat.succ.inj h) x ((lmc hx).resolve_left q)
theorem zip_fm {α : Type} {L : List (Str × α)} : ∀ {ps : List Str} {vs : List α}, ps.length = vs.length → ps.Nodup → (∀ x ∈ ps, L.lookup x = (ps.zip vs).lookup x) → ps.filterMap (fun n => (L.lookup n).map (n, ·)) = ps.zip vs
 | [], [], _, _, _ => rfl
 | p :: ps, v :: vs, h, nd, hm => by
  have nd := List.nodup_cons.mp nd
  have e1 : L.lookup p = some v := by rw [hm p (.head _), List.zip_cons_cons, List.lookup_cons, beq_self_eq_true]
  rw [List.filterMap_cons, e1, zip_fm (Nat.succ.inj h) nd.2 fun x hx => by rw [hm x (.tail _ hx), List.zip_cons_cons, List.lookup_cons, beq_false_of_ne fun q : x = p => nd.1 (q ▸ hx)]]
  rfl
theorem bindArgs_at {fd : FuncData} {ps : List Arg} {vals : List Value} {q : List Expr} {r : List (Option Expr)} (hp : fd.params = ⟨[], ps, none, [], r, none, q⟩) (hd : fd.defaults = .none)
  (h1 : ¬ (decide (vals.length > (ps.map (·.arg)).length) && true) = true) (h2 : ¬ (!(((ps.map (·.arg)).take (ps.map (·.arg)).length).filter fun n => (((ps.map (·.arg)).zip vals).lookup n).isNone).isEmpty) = true) (l : List (Str × Value))
  (h3 : (ps.map Arg.arg ++ []).filterMap (fun n => (((ps.map Arg.arg).zip vals).lookup n).map (n, ·)) = l) : bindArgs fd ⟨vals, []⟩ = pure l := by
 subst h3
 refine Eq.trans (b := bindArgs { fd with params := ⟨[], ps, none, [], r, none, q⟩, defaults := .none } ⟨vals, []⟩) (by rw [← hp, ← hd]) ?_
 refine (if_neg h1).trans ?_
 have e : ∀ k, List.drop k ((none : Option (Array Value)).getD #[]).toList = [] := fun k => List.drop_nil
 dsimp only
 rw [e]
 refine (if_neg h2).trans ?_
 rw [List.zip_nil_right]
 rfl
theorem params_eq {p : Arguments} (h1 : p.posonlyargs = []) (h2 : p.vararg = none) (h3 : p.kwonlyargs = []) (h4 : p.kwarg = none) : p = ⟨[], p.args, none, [], p.kw_defaults, none, p.defaults⟩ := by
 cases p; cases h1; cases h2; cases h3; cases h4; rfl
theorem bindArgs_plain {fd : FuncData} {vals : List Value} (h1 : fd.params.posonlyargs = []) (h2 : fd.params.vararg = none) (h3 : fd.params.kwonlyargs = []) (h4 : fd.params.kwarg = none) (h5 : fd.defaults = .none)
  (nd : (fd.params.args.map (·.arg)).Nodup) (hl : vals.length = (fd.params.args.map (·.arg)).length) : bindArgs fd ⟨vals, []⟩ = pure ((fd.params.args.map (·.arg)).zip vals) := by
 refine bindArgs_at (q := fd.params.defaults) (r := fd.params.kw_defaults) (ps := fd.params.args) (params_eq h1 h2 h3 h4) h5 (by rw [hl, Bool.and_true, decide_eq_true_eq]; exact Nat.lt_irrefl _) ?_ _ (by rw [lan]; exact zip_fm hl.symm nd fun _ _ => rfl)
 rw [List.take_length, List.filter_eq_nil_iff.mpr fun x hx => by rw [Option.isNone_eq_false_iff.mpr (zip_lookup hl.symm x hx)]; exact nofun]
 exact nofun
theorem cellsFrom_some : ∀ {names : List (Str × NameKind)} {n : Nat} {acc : List (Str × Addr)} {x : Str}, (x, NameKind.cell) ∈ names ∨ (acc.lookup x).isSome = true → ((cellsFrom n names acc).lookup x).isSome = true
 | [], _, _, _, h => h.elim (fun h => nomatch h) id
 | (y, k) :: r, n, acc, x, h => by
  unfold cellsFrom
  by_cases hk : (k == .cell) = true
  ·rw [if_pos hk]
   refine cellsFrom_some ?_
   by_cases q : x = y
   ·right; rw [List.lookup_cons, beq_iff_eq.mpr q]; rfl
   ·refine h.imp (fun h => (lmc h).resolve_left fun z => q (congrArg Prod.fst z)) fun h => ?_
    rw [List.lookup_cons, beq_false_of_ne q]; exact h
  ·rw [if_neg hk]
   exact cellsFrom_some (h.imp (fun h => (lmc h).resolve_left fun z => hk (beq_iff_eq.mpr (congrArg Prod.snd z).symm)) id)
inductive FunAt (g : G) (a : Addr) (mf : MFun) : Prop
 | mk (o : Obj) (fd : FuncData) (ho : g.hB.get? a = some o) (hd : o.data = .func fd) (hb : fd.body = .stmts mf.body) (hs : fd.scope = mf.scope) (hc : fd.closure = []) (hg : fd.globals = mainGlobals) (hbl : fd.builtins = builtinsNs) (cr : g.hB.CodeRec fd.code fd.qualname)
  (bind : ∀ vals : List Value, mf.params.length = vals.length → bindArgs fd ⟨vals, []⟩ = pure (mf.params.zip vals))
structure FunOk (g : G) (a : Addr) (mf : MFun) : Prop where
 at_ : FunAt g a mf
 nd : mf.params.Nodup
 pk : ∀ x ∈ mf.params, mf.scope.names.lookup x = some .local ∨ mf.scope.names.lookup x = some .cell
 fn : mf.scope.kind = .function
 co : mf.scope.isCoroutine = false
 ge : mf.scope.isGenerator = false
 nf : ∀ x ∈ mf.scope.names, x.2 ≠ .free
section
variable {g : G} {mg mb : Str → Option Value} {cfg : Cfg} {n u : Nat} {f : Fm} {c : Cx} {s : Shared} {sc cs : Scope} {le : LEnv} {y : Addr → Prop}
noncomputable def bindG (b : Str → Bool) : List (Str × Value) → (Str → Option Value) → Str → Option Value
 | [], m => m
 | (n, v) :: r, m => bindG b r (if b n = true then fun y => if y = n then some v else m y else m)
theorem bindL_eq {kd : Str → Option NameKind} : ∀ (l : List (Str × Value)) (m : Str → Option Value), bindL kd l m = bindG (fun x => decide (kd x = some .local)) l m
 | [], _ => rfl
 | (n, v) :: r, m => by
  unfold bindL bindG
  rw [bindL_eq r]
  by_cases h : kd n = some .local
  ·rw [if_pos h, if_pos (decide_eq_true h)]
  ·rw [if_neg h, if_neg (by rw [decide_eq_false h]; exact nofun)]
theorem bindC_eq {kd : Str → Option NameKind} : ∀ (l : List (Str × Value)) (m : Str → Option Value), bindC kd l m = bindG (fun x => decide (kd x ≠ some .local)) l m
 | [], _ => rfl
 | (n, v) :: r, m => by
  unfold bindC bindG
  rw [bindC_eq r]
  by_cases h : kd n = some .local
  ·rw [if_pos h, if_neg (by rw [decide_eq_false (not_not_intro h)]; exact nofun)]
  ·rw [if_neg h, if_pos (decide_eq_true h)]
theorem bindG_keep {b : Str → Bool} : ∀ {ps : List Str} {vs : List Value} {m : Str → Option Value} {x : Str}, x ∉ ps → bindG b (ps.zip vs) m x = m x
 | [], _, _, _, _ => rfl
 | _ :: _, [], _, _, _ => rfl
 | p :: ps, v :: vs, m, x, h => by
  show bindG b (ps.zip vs) _ x = _
  rw [bindG_keep fun q => h (.tail _ q)]
  by_cases hb : b p = true
  ·rw [if_pos hb]; exact if_neg fun q : x = p => h (q ▸ List.mem_cons_self)
  ·rw [if_neg hb]
theorem bindG_get {b : Str → Bool} : ∀ {ps : List Str} {args : List MV} {vs : List Value} {m : Str → Option Value} {x : Str} {mv : MV}, ps.Nodup → MRs c args vs → zipEnv ps args x = some mv → b x = true → ∃ v, bindG b (ps.zip vs) m x = some v ∧ MR c mv v
 | [], _, _, _, _, _, _, _, h, _ => nos h
 | _ :: _, [], _, _, _, _, _, _, h, _ => nos h
 | p :: ps, a :: as, _, m, x, mv, nd, .mk v vs e r rs, h, hk => by
  subst e
  have nd := List.nodup_cons.mp nd
  show ∃ v', bindG b (ps.zip vs) _ x = some v' ∧ _
  have h : (if x = p then some a else zipEnv ps as x) = some mv := h
  by_cases q : x = p
  ·rw [if_pos q] at h
   cases h
   rw [q, bindG_keep nd.1, if_pos (q ▸ hk)]
   exact ⟨v, if_pos rfl, r⟩
  ·rw [if_neg q] at h
   exact bindG_get nd.2 rs h hk
noncomputable def fmCall (f : Fm) (fd : FuncData) (L a : Addr) : Fm := ⟨f.A.deeper (callEnvC fd L a), callEnvC fd L a, callEnvC fd L a :: f.envs, L⟩
structure Frs (g : G) (envs : List Env) (c : Cx) : Prop where
 frs : c.h.FunFrames g.hB envs
 frO : ∀ e ∈ envs, ∀ a, e.frame = some a → ¬ c.O a ∧ c.x a ∧ c.w a
 wf : ∀ a, c.x a → c.w a → ∃ e ∈ envs, e.frame = some a
theorem leave_exc {A : Around} {c0 c1 : Cx} {envs : List Env} {env : Env} {L : Addr} {e : Value} (hfr : A.frames = some (env :: envs)) (hf : env.frame = some L) (En : Enter (fun b => b = L) c0 c1)
  (x : ExcP g (env :: envs) (fun b => b = L) c1 e s) {Q : Unit → Shared → Prop} {E : Value → Shared → Prop} (h : ∀ s', Exc g envs c0 e s' → Q () s') : wpAny (model g.prog g.w) A (leaving env e) Q E s := by
 cases x.fly with | mk B ea a0 h1 hen hkb hl hbase hx =>
 subst h1
 have fin : ∀ h', Heap.LeftW B (env :: envs) ea (.ref g.T.pe) a0 s.heap h' → Q () { s with heap := h' } := fun h' l => by
  refine h _ ⟨⟨B, ea, a0, rfl, hen, l.1, l.2.1.2.2, fun a o k => ?_, .inr l.2.2.1⟩, fun a o e n _ q => ?_, x.gens, x.os⟩
  ·cases En.keep a o k.e k.n with | mk o1 e1 _ k1 =>
   cases k1 k.w
   have nL : ¬ a = L := En.ny k.e
   exact hbase a o ⟨e1, En.own a o k.e k.n, fun q => k.w (((En.x a).mp q.1).elim (fun hx => ⟨hx, (En.w a hx).mp q.2⟩) fun z => absurd z nL), nL⟩
  ·cases En.keep a o e n with | mk o1 e1 s1 _ =>
   have q1 := s1.notF q
   exact (x.keep a o1 e1 (En.own a o e n) (En.ny e) q1).elim fun o2 z => (l.2.2.2 a o2 z.1 (z.2.notF q1)).elim fun sl e3 => ⟨_, e3, (s1.trans z.2).trans ⟨rfl, rfl, rfl⟩⟩
 cases hx with
 | inl hx => cases hx with | mk oe vs h1 h2 h3 h4 h5 => exact wpAny_leaving_firstW hfr hl hf h1 hkb hen h3 h4 h5 fun h' l => fin h' (h2 ▸ l)
 | inr ht => exact wpAny_leaving_nextW hfr hl hf ht hkb hen fin
theorem code_cells {prog : Program} {w : World} {A : Around} {R : Result → Shared → Prop} {a : Addr} {o : Obj} {fd : FuncData} {body : List Stmt} {vals : List Value} {binds : List (Str × Value)}
  (hroom : A.depth < recursionLimit) (ho : s.heap.get? a = some o) (hdata : o.data = .func fd) (hlim : s.heap.NoLimit) (hcd : s.heap.CodeRec fd.code fd.qualname)
  (hbody : fd.body = .stmts body) (hbind : bindArgs fd ⟨vals, []⟩ = pure binds) (hclo : fd.closure = [])
  (hkind : ∀ x ∈ binds, fd.scope.names.lookup x.1 = some .local ∨ (fd.scope.names.lookup x.1 = some .cell ∧ ((cellsFrom (s.heap.objs.size + 1) fd.scope.names []).lookup x.1).isSome = true))
  (h : ∀ s₁, InCallC s (callEnvC fd s.heap.objs.size a).locals (bindL (callEnvC fd s.heap.objs.size a).kindOf binds fun _ => none) (callEnvC fd s.heap.objs.size a).cells (bindC (callEnvC fd s.heap.objs.size a).kindOf binds fun _ => none) s₁ → s.toks ≤ s₁.toks →
   wpAny (model prog w) (A.deeper (callEnvC fd s.heap.objs.size a)) (execs body (callEnvC fd s.heap.objs.size a)) (fun f s' => R (.ok (.ret (match f with | .ret v => v | _ => .none))) s')
    (fun e s' => wpAny (model prog w) (A.deeper (callEnvC fd s.heap.objs.size a)) (leaving (callEnvC fd s.heap.objs.size a) e) (fun _ s'' => R (.error e) s'') (fun e' s'' => R (.error e') s'') s') s₁)
  (hco : fd.scope.isCoroutine = false) (hgen : fd.scope.isGenerator = false) (hk : fd.scope.kind = .function) : codeAny (model prog w) A (.call (.ref a) ⟨vals, []⟩) R s := by
 refine codeAny_call_function hroom ho hdata hco hgen hbody hcd ?_
 rw [hbind, hclo]
 refine wpAny_pure (any_toks (wpAny_newFunctionEnv_cells hk hkind fun env he s' x le => ?_))
 subst he
 exact ⟨hlim.keeps x.toInCall.keep, codeAny_func (h s' x le)⟩
inductive Begun (g : G) (n : Nat) (f : Fm) (fd : FuncData) (L a : Addr) (mf : MFun) (args : List MV) (c : Cx) (s1 : Shared) : Prop
 | mk (c1 : Cx) (e : c1.st = c.st) (En : Enter (fun b => b = L) c c1) (Z : Pl g n 8 mf.scope (fmCall f fd L a) (zipEnv mf.params args) c1 s1)
theorem begun {fd : FuncData} {L a : Addr} {mf : MFun} (hsc : fd.scope = mf.scope) (hg : fd.globals = mainGlobals) (hbl : fd.builtins = builtinsNs) (Fo : FunOk g a mf) (hfr : f.A.frames = some f.envs) (hhd : f.A.handled = none) (hdp : f.A.depth + 1 + 2 * n ≤ 900) (hun : f.A.units + 3 + 10 * n + 8 ≤ 9000)
  (X : St g c s) (R : Frs g f.envs c) {args : List MV} {vals : List Value} (ra : MRs c args vals) (hL : s.heap.objs.size = L) {s1 : Shared}
  (I : InCallC s L (bindL (callEnvC fd L a).kindOf (mf.params.zip vals) fun _ => none) (callEnvC fd L a).cells (bindC (callEnvC fd L a).kindOf (mf.params.zip vals) fun _ => none) s1) (tks : s.toks ≤ s1.toks) : Begun g n f fd L a mf args c s1 := by
 have ek : ∀ x, (callEnvC fd L a).kindOf x = mf.scope.names.lookup x := fun x => congrArg (fun sc : Scope => sc.names.lookup x) hsc
 have ecl : (callEnvC fd L a).cells = cellsFrom (L + 1) mf.scope.names [] := congrArg (fun sc : Scope => cellsFrom (L + 1) sc.names []) hsc
 have cel : ∀ x, far mf.scope x → mf.scope.names.lookup x = some .cell := fun x e => e.elim id fun e => absurd rfl (Fo.nf _ (mem_of_lookup e))
 have hcl : ∀ x, far mf.scope x → ∃ ca, (callEnvC fd L a).cells.lookup x = some ca := fun x e => by rw [ecl]; exact Option.isSome_iff_exists.mp (cellsFrom_some (.inl (mem_of_lookup (cel x e))))
 have Y1 : FmOk mf.scope (fmCall f fd L a) n 8 := ⟨by show f.A.frames.map _ = _; rw [hfr]; rfl, hhd, hdp, hun, (congrArg Scope.kind hsc).trans Fo.fn, hg, hbl, rfl, fun x e => (ek x).trans e, fun x e => (ek x).trans e, fun x e => .inl ((ek x).trans (cel x e)), hcl⟩
 have noneL : ∀ b, L ≤ b → c.h.get? b = none := fun b hb => X.heap ▸ Heap.get?_none_of_le (hL ▸ hb)
 have nL := noneL L (nlr _)
 have T := X.enter (y := fun b => b = L) (fun b => c.w b ∨ b = L) (fun b q => ⟨fun z => z.elim id fun z => (X.xlt b q).elim fun o eo => (by rw [z, nL] at eo; cases eo), .inl⟩) (s' := s1) (h' := s1.heap) (fun b o e => I.toInCall.keep b o (X.heap ▸ e))
  (fun b q => by subst q; exact ⟨nL, (Ns_there I.toInCall.ns).imp fun _ z => z.1⟩) rfl (I.toInCall.same.elim fun h z => z.elim fun tk e => by rw [e]) (I.toInCall.same.elim fun h z => z.elim fun tk e => by rw [e]) tks
 have En := T.2
 have ra1 := MRs.up En.up _ _ ra
 have xL := (En.x L).mpr (.inr rfl)
 refine ⟨c.ent s1.heap (fun b => b = L) fun b => c.w b ∨ b = L, rfl, En, Y1, T.1, ⟨fun q => T.1.sep _ q xL, xL, ⟨by show fd.scope.kind ≠ _; rw [hsc, Fo.fn]; exact nofun, (Ns_there I.toInCall.ns).elim fun o z => ⟨L, o, rfl, ?_, z.1, z.2⟩, frames_keep (fun e he a ha o eo n => (En.keep a o eo (R.frO e he a ha).1).notF n) R.frs⟩, fun e he b hb => ?_, fun b hb1 hb2 => ?_⟩,
  ⟨_, I.toInCall.ns, fun x v kx e => ?_⟩, fun x v kx e => ?_⟩
 ·cases hq : g.hB.get? L with
  | none => rfl
  | some o' => rw [(X.base L o' hq).1] at nL; cases nL
 ·cases he with
  | head =>
   cases some_nil (show some L = some b from hb)
   exact ⟨fun q => T.1.sep _ q xL, xL, .inr rfl⟩
  | tail _ he =>
   have q := R.frO e he b hb
   exact ⟨(frame_there R.frs he hb).elim fun o z => En.own _ o z.1 q.1, (En.x _).mpr (.inl q.2.1), (En.w b q.2.1).mpr q.2.2⟩
 ·exact ((En.x b).mp hb1).elim (fun q => (R.wf b q ((En.w b q).mp hb2)).imp fun e z => ⟨.tail _ z.1, z.2⟩) fun q => ⟨_, .head _, by rw [q]; rfl⟩
 ·rw [bindL_eq]
  exact bindG_get Fo.nd ra1 e (decide_eq_true ((ek x).trans kx))
 ·rw [bindC_eq] at I
  refine (hcl x kx).elim fun ca hca => (bindG_get (m := fun _ => none) (b := fun x => decide ((callEnvC fd L a).kindOf x ≠ some .local)) Fo.nd ra1 e (decide_eq_true (by rw [ek x, cel x kx]; exact nofun))).elim fun v1 z => (I.cell x ca hca).elim fun oc y => ⟨ca, hca, oc, v1, y.1, y.2.trans (congrArg _ z.1), fun q => ?_, z.2⟩
  have gt := I.above x ca (mem_of_lookup hca)
  have nca := noneL ca (nol gt)
  have no : ∀ {o}, c.h.get? ca ≠ some o := fun q => by rw [nca] at q; cases q
  exact q.elim (fun q => (X.own q).elim fun o z => no z.1) fun q => q.elim (fun q => (X.xlt ca q).elim fun o z => no z) fun q => Nat.lt_irrefl L (q ▸ gt)
def CallPost (g : G) (f : Fm) (c : Cx) (r : O MV) (q : Result) (s' : Shared) : Prop := match q with
 | .ok (.ret v) => Post (fun _ => False) g c r MR v s'
 | .ok _ => False
 | .error e => r = .exc ∧ Exc g f.envs c e s'
end
section
variable {g : G} {mg mb : Str → Option Value} {cfg : Cfg} {n u : Nat} {f : Fm} {c : Cx} {s : Shared} {sc cs : Scope} {le : LEnv} {y : Addr → Prop}
noncomputable def flW (fl : Flow) : Value := match fl with | .ret v => v | _ => .none
theorem ExR.val {p : Fl × LEnv} {fl : Flow} (r : ExR g sc f c p fl) : MR c (flV p.1) (flW fl) := by
 obtain ⟨fl0, le1⟩ := p
 cases fl0 with
 | next => cases r.1; rfl
 | ret v => exact r.elim fun w q => by cases q.1; exact q.2
theorem retM_at (X : St g c s) {k : Bool} {m : Nat} {v : MV} {w : Value} (r : MR c v w) (hb : retM k m v c.st ≠ .bad) : Post (fun _ => False) g c (retM k m v c.st) MR w s := by
 cases k with
 | true => exact ⟨v, c, rfl, X, .refl c, r⟩
 | false => exact handBack_sound X r hb
theorem leave_post {L : Addr} {c2 c1 : Cx} (En : Enter (fun b => b = L) c c1) (A : AdvP (fun b => b = L) c1 c2) (X : St g c2 s) {v : MV} {w : Value} (r : MR c2 v w) : St g (c2.re c2.h c.x c.w) s ∧ Adv c (c2.re c2.h c.x c.w) ∧ MR (c2.re c2.h c.x c.w) v w := by
 have T := X.leave En A
 have U : Up c2 (c2.re c2.h c.x c.w) := ⟨fun b o e nn => ⟨e, fun z => nn (z.imp id fun z => by rw [A.x]; exact (En.x b).mpr (.inl z))⟩, nlr _, fun _ _ => rfl, fun _ _ h => h⟩
 exact ⟨T.1, T.2, MR.up U v w r⟩
theorem call_code {T : Tab} {K : Nat} (lim : g.hB.NoLimit) {a : Addr} {mf : MFun} (hT : T.fn a = some mf) (Fo : FunOk g a mf) (hbody : ExsOk g ⟨T, K, callN T K n⟩ n 8 mf.body) (hfr : f.A.frames = some f.envs) (hhd : f.A.handled = none) (hdp : f.A.depth + 1 + 2 * n ≤ 900) (hun : f.A.units + 3 + 10 * n + 8 ≤ 9000)
  (X : St g c s) (R : Frs g f.envs c) {args : List MV} {vals : List Value} (ra : MRs c args vals) (hb : callN T K (n + 1) a args c.st ≠ .bad) : codeAny (model g.prog g.w) f.A (.call (.ref a) ⟨vals, []⟩) (CallPost g f c (callN T K (n + 1) a args c.st)) s := by
 have e0 : callN T K (n + 1) a args c.st = (match T.fn a with | none => .bad | some mf => if mf.params.length = args.length then M.bind (exs ⟨T, K, callN T K n⟩ mf.scope mf.body (zipEnv mf.params args)) (fun p => retM (T.keep a) c.st.next (flV p.1)) c.st else .bad) := rfl
 rw [hT] at e0
 dsimp only at e0
 by_cases hlen : mf.params.length = args.length
 case neg => rw [if_neg hlen] at e0; exact absurd e0 hb
 rw [if_pos hlen] at e0
 rw [e0] at hb ⊢
 cases Fo.at_ with | mk o fd ho hdata hbo hsc hclo hglo hblt hcr hbind =>
 have kB : ∀ b o, g.hB.get? b = some o → s.heap.get? b = some o := X.stays
 refine code_cells (nll (nlt (nla _ _) (nlt (nla _ _) hdp)) (by decide)) (kB _ _ ho) hdata (lim.keeps kB) (hcr.imp fun c1 z => z.imp fun o1 z => z.imp fun vs z => z.imp fun t z => ⟨z.1, kB _ _ z.2.1, z.2.2⟩) hbo (hbind vals (hlen.trans ra.length)) hclo (fun z hz => ?_) (fun s1 I tks => ?_)
  ((congrArg _ hsc).trans Fo.co) ((congrArg _ hsc).trans Fo.ge) ((congrArg _ hsc).trans Fo.fn)
 ·rw [hsc]
  exact (Fo.pk _ (List.of_mem_zip (a := z.1) (b := z.2) hz).1).imp id fun q => ⟨q, cellsFrom_some (.inl (mem_of_lookup q))⟩
 cases begun hsc hglo hblt Fo hfr hhd hdp hun X R ra rfl I tks with | mk c1 st1 En Z =>
 rw [← st1] at hb ⊢
 have frE : (f.A.deeper (callEnvC fd s.heap.objs.size a)).frames = some (callEnvC fd s.heap.objs.size a :: f.envs) := by show f.A.frames.map _ = _; rw [hfr]; rfl
 refine wpAny_mono (hbody Z ⟨rfl, _, rfl⟩ fun q => hb (bind_bad q)) (fun fl s2 p => ?_) fun e s2 hx => leave_exc (envs := f.envs) frE rfl En hx.2 fun s3 x3 => ⟨bind_exc hx.1, x3⟩
 cases p with | mk p c2 e2 X2 A2 r2 =>
 rw [bind_ok e2] at hb ⊢
 have Lv := leave_post En A2 X2 r2.val
 exact Post.back Lv.2.1 (retM_at Lv.1 Lv.2.2 hb)
structure ClsOk (g : G) (k : Addr) (ci : ClsInfo) : Prop where
 makes : makesIn g.K k = true
 ini : findIn g.K (.ref k) "__init__" = some (some (.ref ci.init))
 ty : typeIn g.K (.ref ci.init) = some (.type "function")
 fn : (g.T.fn ci.init).isSome = true
theorem St.dropped (X : St g c s) {i : Nat} {st' : MSt} (L : Less c.st st') (hg : st'.objs i = .gone) {a : Addr} (h : OwnAt (c.st.objs i) (c.ρ i) a) : ¬ (c.put st').S a := fun q => q.elim (fun q => q.elim fun m q => by
 have z := X.inj m i a (L.own q) h
 subst z
 have q : OwnAt (st'.objs m) (c.ρ m) a := q
 rw [hg] at q
 exact q) (X.sep a ⟨i, h⟩)
theorem frzInst_at (X : St g c s) {i k : Nat} {w : Value} (r : MR c (.ref i) w) (hb : frzInst k i c.st ≠ .bad) : Post (fun _ => False) g c (frzInst k i c.st) MR w s := by
 unfold frzInst at hb ⊢
 have O := X.at_ i
 cases hi : c.st.objs i with
 | inst k' fs =>
  rw [hi] at hb O
  dsimp only at hb ⊢
  by_cases hk : k' = k
  case neg => rw [if_neg hk] at hb; exact absurd rfl hb
  rw [if_pos hk] at hb ⊢
  subst hk
  cases O with | mk es nn g1 g2 rf =>
  have L1 : Less c.st ⟨c.st.next, upd c.st.objs i .gone⟩ := ⟨rfl, fun m => (Classical.em (m = i)).elim (fun q => .inr (if_pos q)) fun q => .inl (if_neg q)⟩
  have Y1 := X.less L1
  cases hz : frzs 6 fs ⟨c.st.next, upd c.st.objs i .gone⟩ with
  | none => rw [hz] at hb; exact absurd rfl hb
  | some p =>
   have F := frzs_sound 6 Y1.1 (MEs.mono Y1.2 (noP c) rf) hz
   have Y2 := Y1.1.less F.L
   have Y3 := Y2.1.less (above_less i p.2)
   have LL := (L1.trans F.L).trans (above_less i p.2)
   have hg : (⟨p.2.next, above i p.2.objs⟩ : MSt).objs i = .gone := if_neg (Nat.lt_irrefl _)
   have D : ∀ {a}, OwnAt (c.st.objs i) (c.ρ i) a → ¬ (c.put ⟨p.2.next, above i p.2.objs⟩).S a := X.dropped LL hg
   rw [hi] at D
   exact ⟨.d (.inst k' p.1), c.put ⟨p.2.next, above i p.2.objs⟩, rfl, Y3.1, (Y1.2.trans Y2.2).trans Y3.2, ⟨_, _, es, nn, r.2, g1, D (.inl rfl), g2, D (.inr rfl), VEs.mono Y3.2.n (Y3.2.keepS (noP _)) _ _ F.r⟩⟩
 | _ => rw [hi] at hb; exact absurd rfl hb
theorem under_tc {A : Around} {a : Addr} {l : List Value} : (A.under (.builtin "type.__call__" ⟨.ref a :: l, []⟩)).depth = A.depth + 1 ∧ (A.under (.builtin "type.__call__" ⟨.ref a :: l, []⟩)).units = A.units + 1 ∧
  (A.under (.builtin "type.__call__" ⟨.ref a :: l, []⟩)).frames = A.frames ∧ (A.under (.builtin "type.__call__" ⟨.ref a :: l, []⟩)).handled = A.handled := ⟨rfl, rfl, rfl, rfl⟩
abbrev CodeOk (g : G) (call : List MV → M MV) (a : Addr) (n : Nat) : Prop := ∀ ⦃A : Around⦄ ⦃envs : List Env⦄ ⦃c : Cx⦄ ⦃s : Shared⦄ ⦃args : List MV⦄ ⦃vals : List Value⦄, A.frames = some envs → A.handled = none → A.depth + 2 * n ≤ 901 → A.units + 10 * n ≤ 8993 → St g c s → Frs g envs c → MRs c args vals → call args c.st ≠ .bad →
 ∀ f : Fm, f.A = A → f.envs = envs → codeAny (model g.prog g.w) A (.call (.ref a) ⟨vals, []⟩) (CallPost g f c (call args c.st)) s
theorem new_code {cfg : Cfg} (H : GOk g mg mb) {a : Addr} {ci : ClsInfo} (Co : ClsOk g a ci) (hcall : CodeOk g (cfg.call ci.init) ci.init n) (hfr : f.A.frames = some f.envs) (hhd : f.A.handled = none) (hdp : f.A.depth + 2 * n ≤ 900) (hun : f.A.units + 10 * n ≤ 8992)
  (X : St g c s) (R : Frs g f.envs c) {args : List MV} {vals : List Value} (ra : MRs c args vals) : W g f c s (PySem.call (.ref a) vals []) (newInst cfg a ci args c.st) MR := fun hb => by
 have kin := X.kin H
 refine wpAny_call ?_
 obtain ⟨hh, gg, dd, tt, oo⟩ := s
 cases (X.heap : hh = c.h)
 refine make_core (makes_of kin Co.makes) (looks_findIn kin Co.ini) (fun self => bind_fn kin self Co.ty) (.inl rfl) ?_
 have U := under_tc (A := f.A) (a := a) (l := vals)
 generalize f.A.under (.builtin "type.__call__" ⟨.ref a :: vals, []⟩) = A1 at U ⊢
 have sz : (c.h.push emptyDict).objs.size = c.h.objs.size + 1 := Heap.size_push _ _
 have T := X.alloc (mo := .inst a []) (p := (c.h.objs.size + 1, c.h.objs.size)) (h' := (c.h.push emptyDict).push (instObj a c.h.objs.size)) (s' := ⟨(c.h.push emptyDict).push (instObj a c.h.objs.size), gg, dd, tt, oo⟩) (fun b o e => Heap.get?_push_of_some _ (Heap.get?_push_of_some _ e))
  (fun b q => Heap.get?_none_of_le (q.elim (fun q => q ▸ Nat.le_succ _) fun q => q ▸ nlr _)) (fun c' e _ => ⟨_, _, e ▸ sz ▸ Heap.get?_push_size _ rfl, e ▸ Heap.get?_push_of_some _ (Heap.get?_push_size _ rfl), rfl⟩) rfl rfl rfl (nlr _)
 generalize hc1 : c.add (.inst a []) (c.h.objs.size + 1, c.h.objs.size) ((c.h.push emptyDict).push (instObj a c.h.objs.size)) = c1 at T
 have st1 : c1.st = ⟨c.st.next + 1, upd c.st.objs c.st.next (.inst a [])⟩ := by rw [← hc1]; rfl
 have rho1 : c1.ρ c.st.next = (c.h.objs.size + 1, c.h.objs.size) := by rw [← hc1]; exact if_pos rfl
 have rx : MR c1 (.ref c.st.next) (.ref (c.h.objs.size + 1)) := ⟨by rw [st1]; exact nls _, by rw [rho1]⟩
 have e0 : newInst cfg a ci args c.st = M.bind (cfg.call ci.init (.ref c.st.next :: args)) (initM ci.froz a c.st.next) c1.st := by rw [st1]; rfl
 rw [e0] at hb ⊢
 have R1 : Frs g f.envs c1 := ⟨frames_keep (fun e he b hb o eo n => (T.2.keep b o eo (R.frO e he b hb).1 id).notF n) R.frs, fun e he b hb => ⟨(frame_there R.frs he hb).elim fun o z => T.2.own _ o z.1 (R.frO e he b hb).1, T.2.x ▸ T.2.w ▸ (R.frO e he b hb).2⟩, T.2.x ▸ T.2.w ▸ R.wf⟩
 refine codeAny_mono (hcall (U.2.2.1.trans hfr) (U.2.2.2.trans hhd) (by rw [U.1]; omega) (by rw [U.2.1]; omega) T.1 R1 (.cons rx (ra.mono T.2 (noP c))) (fun q => hb (bind_bad q)) ⟨A1, f.env, f.envs, f.L⟩ rfl rfl) fun r s2 hr => ?_
 cases r with
 | error e => exact ⟨bind_exc hr.1, hr.2.back T.2⟩
 | ok fl =>
  cases fl with
  | ret v =>
   cases hr with | mk mv c2 e2 X2 A2 r2 =>
   rw [bind_ok e2] at hb ⊢
   have A12 := T.2.trans A2
   cases mv with
   | d x =>
    cases x with
    | none =>
     refine ⟨r2, ?_⟩
     have r3 : MR c2 (.ref c.st.next) (.ref (c.h.objs.size + 1)) := rx.mono A2 (noP c1)
     cases hf : ci.froz with
     | false => exact ⟨_, c2, rfl, X2, A12, r3⟩
     | true => rw [hf] at hb; exact (frzInst_at X2 r3 hb).back A12
    | _ => exact absurd rfl hb
   | _ => exact absurd rfl hb
  | _ => exact hr.elim
end
section
variable {g : G} {mg mb : Str → Option Value} {cfg : Cfg} {n u : Nat} {f : Fm} {c : Cx} {s : Shared} {sc cs : Scope} {le : LEnv} {y : Addr → Prop}
theorem name_glob (H : GOk g mg mb) (Y : FmOk sc f n u) (st : ∀ a o, g.hB.get? a = some o → s.heap.get? a = some o) {id : Str} {a : Nat} {pos : Pos} (h : evName g.T sc id (fun _ => none) = some (.d (.glob a)))
  {A : Around} {Q : Value → Shared → Prop} {E : Value → Shared → Prop} (q : Q (.ref a) s) : wpAny (model g.prog g.w) A (eval (.Name id pos) f.env) Q E s := by
 unfold evName at h
 by_cases hc : id = so "__debug__" ∨ id = so "__classdict__"
 ·rw [if_pos hc] at h; exact nos h
 rw [if_neg hc] at h
 have hd := beq_false_of_ne fun z => hc (.inl z)
 cases hk : sc.names.lookup id with
 | none => rw [hk] at h; exact nos h
 | some k =>
  rw [hk] at h
  cases k with
  | globalImplicit => exact (mes h).elim fun d z => by cases z.2; exact glob_any H Y st hd hk z.1 fun v r => by cases r; exact q
  | _ => exact nos h
noncomputable abbrev Cx.lost (c : Cx) (h : Heap) : Cx := ⟨⟨c.st.next, fun _ => .gone⟩, c.ρ, h, c.x, c.n, c.w⟩
theorem St.caught (I : InF f) (X : St g c s) (F : FrSt g sc f le c) {s1 : Shared} {B : Heap} (hbase : ∀ a o, Still (Mine.own f) c a o → B.get? a = some o)
  (hk : ∀ a o, c.h.get? a = some o → ¬ c.O a → ¬ Mine.own f a → notF o → ∃ o', s1.heap.get? a = some o' ∧ Sl o o')
  {s6 : Shared} (up : s1.heap.UpToSlots s6.heap) (stB : B.StaysIn s6.heap) (fr : s6.heap.FunFrames B f.envs) (hg : s6.gens = #[]) (ho : s6.os = g.os) (ht : s.toks ≤ s6.toks) : St g (c.lost s6.heap) s6 ∧ AdvP (Mine.own f) c (c.lost s6.heap) := by
 have nO : ∀ a, ¬ (c.lost s6.heap).O a := fun a q => q.elim fun _ q => q
 have liveX : ∀ a, c.x a → ∃ o', s6.heap.get? a = some o' := fun a q => by
  by_cases q1 : a = f.L
  ·exact I.2.elim fun outer e => (frame_there fr (e ▸ List.mem_cons_self) I.1).imp fun o z => q1 ▸ z.1
  ·by_cases q2 : c.w a
   ·exact (F.wf a q q2).elim fun e z => (frame_there fr z.1 z.2).imp fun o z => z.1
   ·exact (X.xlt a q).imp fun o e => stB a o (hbase a o ⟨e, fun z => X.sep a z q, fun z => q2 z.2, q1⟩)
 have base : ∀ a o, g.hB.get? a = some o → s6.heap.get? a = some o ∧ ¬ c.x a := fun a o e => by
  have z := X.base a o e
  have nx : ¬ c.x a := fun q => z.2 (.inr q)
  exact ⟨stB a o (hbase a o ⟨z.1, fun q => z.2 (.inl q), fun q => nx q.1, fun q => nx (ownX F a q)⟩), nx⟩
 refine ⟨⟨rfl, fun a o e => ⟨(base a o e).1, fun z => z.elim (nO a) (base a o e).2⟩, fun _ => trivial, fun n m a h => h.elim, fun _ _ => rfl, liveX, hg, ho, X.n0, lll X.pos ht, X.tk ht, X.same_, fun a q => absurd q (nO a)⟩,
  ⟨fun a o e q np => ?_, fun a o _ _ => nO a, fun a o e q => ?_, rfl, rfl, nlr _, fun _ _ => rfl, fun _ _ h => h⟩⟩
 ·by_cases qw : c.x a ∧ c.w a
  ·refine (F.wf a qw.1 qw.2).elim fun e1 z => (frame_there F.frs z.1 z.2).elim fun o2 y => ?_
   cases some_nil (y.1.symm.trans e)
   exact (hk a o e q np y.2).elim fun o3 v => (up a o3 v.1 (v.2.notF y.2)).elim fun sl e4 => ⟨_, e4, v.2.trans ⟨rfl, rfl, rfl⟩, fun z => absurd qw z⟩
  ·exact .here (stB a o (hbase a o ⟨e, q, qw, np⟩))
 ·by_cases qx : c.x a
  ·exact liveX a qx
  ·exact ⟨o, stB a o (hbase a o ⟨e, q, fun z => qx z.1, fun z => qx (ownX F a z)⟩)⟩
theorem isPe_eq {v : Option MV} (h : isPe cfg v = true) : v = some (.d (.glob cfg.T.pe)) := by
 cases v with
 | none => exact Bool.noConfusion h
 | some v =>
  cases v with
  | d x =>
   cases x with
   | glob a => exact congrArg (fun a => some (MV.d (.glob a))) (of_decide_eq_true h)
   | _ => exact Bool.noConfusion h
  | _ => exact Bool.noConfusion h
theorem isNoneC_eq {e : Expr} (h : isNoneC e = true) : ∃ k p, e = .Constant .none k p := by
 cases e with
 | Constant c k p =>
  cases c with
  | none => exact ⟨k, p, rfl⟩
  | _ => exact Bool.noConfusion h
 | _ => exact Bool.noConfusion h
theorem retE_eq {st : Stmt} {e : Expr} (h : retE st = some e) : ∃ p, st = .Return (some e) p := by
 cases st with
 | Return o p => exact ⟨p, congrArg (fun o => Stmt.Return o p) h⟩
 | _ => exact nos h
theorem noneRet_eq {b : List Stmt} (h : noneRet b = true) : ∃ k p1 p2, b = [.Return (some (.Constant .none k p1)) p2] := by
 unfold noneRet at h
 cases h1 : one? b with
 | none => rw [h1] at h; exact Bool.noConfusion h
 | some st =>
  rw [h1] at h
  cases h2 : retE st with
  | none => exact Bool.noConfusion ((congrArg (fun o : Option Expr => (o.map isNoneC).getD false) h2).symm.trans h)
  | some e =>
   have h3 : isNoneC e = true := (congrArg (fun o : Option Expr => (o.map isNoneC).getD false) h2).symm.trans h
   exact (isNoneC_eq h3).elim fun k z => z.elim fun p1 z => (retE_eq h2).elim fun p2 y => ⟨k, p1, p2, by rw [one?_eq h1, y, z]⟩
theorem handName_eq {hs : List ExceptHandler} {x : Str} (h : handName hs = some x) : ∃ xp p3 k p1 p2, hs = [.ExceptHandler (some (.Name x xp)) none [.Return (some (.Constant .none k p1)) p2] p3] := by
 unfold handName at h
 cases h1 : one? hs with
 | none => rw [h1] at h; exact nos h
 | some hd =>
  rw [h1] at h
  cases hd with | ExceptHandler ty nm b p3 =>
  by_cases q : (nm.isNone && noneRet b) = true
  ·have h := (if_pos q).symm.trans h
   have q := (Bool.and_eq_true _ _).mp q
   refine (noneRet_eq q.2).elim fun k z => z.elim fun p1 z => z.elim fun p2 z => (bes h).elim fun e y => (nameOf_eq y.2).elim fun xp v => ⟨xp, p3, k, p1, p2, ?_⟩
   rw [one?_eq h1, y.1, Option.isNone_iff_eq_none.mp q.1, z, v]
  ·exact nos ((if_neg q).symm.trans h)
theorem try_hand (H : GOk g mg mb) (hpe : ktsIn g.K g.T.pe "BaseException" = true) (Z : Pl g n u sc f le c s) (I : InF f) {x : Str} (hx : evName g.T sc x (fun _ => none) = some (.d (.glob g.T.pe))) {xp p1 p2 p3 : Pos} {k : Nat} {s1 : Shared} {B : Heap} {ea : Addr} {a0 : Value} (x1 : ExcP g f.envs (own f) c (.ref ea) s1)
  (hbase : ∀ a o, Still (own f) c a o → B.get? a = some o) (ht : s.toks ≤ s1.toks) {outer : List Env} (henv : f.envs = f.env :: outer) {h2 : Heap} (hheld : Heap.HeldW B (f.env :: outer) ea (.ref g.T.pe) a0 f.L h2) (up2 : s1.heap.UpToSlots h2) {r : O (Fl × LEnv)} {E : Value → Shared → Prop}
  (hr : r = .ok (.ret (.d .none), le) ⟨c.st.next, fun _ => .gone⟩) :
  wpAny (model g.prog g.w) f.A (setFlight (.ref ea) none) (fun _ s3 => wpAny (model g.prog g.w) f.A (handleBy (.ref ea) f.env [.ExceptHandler (some (.Name x xp)) none [.Return (some (.Constant .none k p1)) p2] p3]) (Post (own f) g c r (ExR g sc f)) E s3) E { s1 with heap := h2 } := by
 refine wpAny_landsW hheld fun h5 hfl up5 => ?_
 have stB : ∀ a o, g.hB.get? a = some o → h5.get? a = some o := fun a o e => by
  have z := Z.X.base a o e
  have nx : ¬ c.x a := fun q => z.2 (.inr q)
  exact hfl.1 a o (hbase a o ⟨z.1, fun q => z.2 (.inl q), fun q => nx q.1, fun q => nx (ownX Z.F a q)⟩)
 refine hfl.there.elim fun ob y => ?_
 obtain ⟨nm, q', N, bs, bm, hdct, sn, sub, ab, col, dd, k0, k1, k2, k3, k5, newId, hC, hbase', hbT⟩ := kts_cls (h := h5) (fun a o e => stB a o (H.kin a o e)) hpe
 refine wpAny_handleBy_cons (codeAny_handlers_test (name_glob H Z.Y stB hx (wpAny_excMatches_sub_self hC y.1 y.2 hbase' (codeAny_handlers_suite (lands_againW hfl fun h6 hfl6 up6 => ?_))))) nofun
 rw [execs_cons]
 refine wpAny_bind ?_
 show wpAny _ _ (standAt p2 >>= fun _ => (pure Value.none >>= fun x => pure (Flow.ret x))) _ _ _
 refine wpAny_bind (wpAny_standAt (wpAny_bind (wpAny_pure (wpAny_pure (wpAny_pure ?_)))))
 have T := Z.X.caught I Z.F (s1 := s1) (s6 := { s1 with heap := h6 }) hbase x1.keep ((up2.trans up5).trans up6) hfl6.1 (by rw [henv]; exact hfl6.2.2.1) x1.gens x1.os ht
 exact ⟨(.ret (.d .none), le), _, hr, T.1, T.2, .none, rfl, rfl⟩
theorem ex_Try (H : GOk g mg mb) (hT : cfg.T = g.T) (hpe : ktsIn g.K g.T.pe "BaseException" = true) (b : List Stmt) (hs : List ExceptHandler) (e fb : List Stmt) (pos : Pos) (hb : ExsOk g cfg n u b) : ExOk g cfg n u (.Try b hs e fb pos) := fun sc f le c s Z I =>
 W.ite (m := match handName hs with | some x => catchM (isPe cfg (evName cfg.T sc x fun _ => none)) le (exs cfg sc b le) | none => M.bad) fun hc hr => by
 have hc := (Bool.and_eq_true _ _).mp hc
 cases List.isEmpty_iff.mp hc.1
 cases List.isEmpty_iff.mp hc.2
 cases hh : handName hs with
 | none => rw [hh] at hr; exact absurd rfl hr
 | some x =>
 rw [hh] at hr
 dsimp only at hr ⊢
 obtain ⟨xp, p3, k, p1, p2, hq⟩ := handName_eq hh
 subst hq
 unfold catchM at hr ⊢
 rw [arm_exec_Try]
 refine wpAny_bind (wpAny_standAt (wpAny_tryStmt_except (any_toks (wpAny_mono (hb Z I fun q => hr (by rw [q])) (fun fl s1 p _ => ?_) fun e s1 hx ht => ?_))))
 ·cases p with | mk a c1 e1 X1 A1 R1 =>
  rw [e1]
  obtain ⟨fl0, le1⟩ := a
  cases fl0 with
  | next => cases R1.1; exact wpAny_execs_nil ⟨_, c1, rfl, X1, A1, R1⟩
  | ret v => exact R1.elim fun w q => by cases q.1; exact ⟨_, c1, rfl, X1, A1, w, rfl, q.2⟩
 rw [hx.1] at hr ⊢
 dsimp only at hr ⊢
 have hp : isPe cfg (evName cfg.T sc x fun _ => none) = true := Classical.byContradiction fun q => hr (if_neg q)
 have hev := isPe_eq hp
 rw [hp, if_pos rfl]
 rw [hT] at hev
 cases hx.2.fly with | mk B ea a0 h1 hen hkb hl hbase hfly =>
 subst h1
 refine I.2.elim fun outer henv => ?_
 have hfr : f.A.frames = some (f.env :: outer) := by rw [Z.Y.fr, henv]
 rw [henv] at hl
 cases hfly with
 | inl h =>
  cases h with | mk oe vs h1 h2 h3 h4 h5 =>
  unfold noteFrame
  simp only [I.1]
  refine wpAny_bind (wpAny_field h1 h3 h4 ?_)
  rw [if_neg (by decide)]
  refine wpAny_entryW hfr hl I.1 h1 hkb hen h3 (Array.getElem?_eq_some_iff.mp h4).1 h5 fun h' hN => ?_
  rw [h2] at hN
  exact try_hand H hpe Z I hev hx.2 hbase ht henv ⟨hN.1, hen, hN.2.1, hN.2.2.1⟩ hN.2.2.2 rfl
 | inr htr => exact wpAny_noteFrame_onW hfr hl I.1 htr hkb hen fun h' hN => try_hand H hpe Z I hev hx.2 hbase ht henv ⟨hN.1, hen, hN.2.1, hN.2.2.1⟩ hN.2.2.2 rfl
end
end
section
open PySem PySem.W PySem.Calls PyProof.Rows
open Builtin Builtin.ObjectAttr
theorem tailX_has {X : String} {b : Bool} (hb : ([.type "Exception", .type "BaseException", .type "object"] : List Value).contains (.type X) = b) {l : List Value} : tailX l = true → l.contains (.type X) = b := by
 induction l with
 | nil => intro h; cases h
 | cons x r ih =>
  intro h
  cases x with
  | ref a => rw [List.contains_cons, ih h]; rfl
  | _ => rw [(beq_iff_eq.mp h : _ :: r = [.type "Exception", .type "BaseException", .type "object"])]; exact hb
theorem tailX_refuse (self : Value) {l : List Value} : tailX l = true → refuseLoop self "__setattr__" l = pure () := by
 induction l with
 | nil => intro h; cases h
 | cons x r ih =>
  intro h
  cases x with
  | ref a => rw [refuseLoop_ref]; exact ih h
  | _ => rw [(beq_iff_eq.mp h : _ :: r = [.type "Exception", .type "BaseException", .type "object"])]; exact PySem.F.store_Exception.passes self
section
variable {prog : Program} {w : World} {A : Around} {E : Value → Shared → Prop} {R : Result → Shared → Prop} {h : Heap} {g : Array GenState} {d : Drawn} {t : Nat} {os : OsState}
variable {nm q : Str} {C N : Addr} {bs bm : List Value} {hdct : Bool} {sn : List Str} {sub : List Value} {ab : Bool} {col : Option Bool} {dd : Option Addr} {k0 k1 k2 k3 k5 : Option Value}
noncomputable abbrev peObj (nm q : Str) (C N : Addr) (bs bm : List Value) (hdct : Bool) (sn : List Str) (sub : List Value) (ab : Bool) (col : Option Bool) (dd : Option Addr) (k0 k1 k2 k3 k5 : Option Value) : Obj := excClassObj nm q C N bs bm hdct sn sub ab col dd k0 k1 k2 k3 k5 "Exception.__new__"
theorem pe_check_new {M : Model} (T : tailX bm = true) {rest : List Value} {Q : Unit → Shared → Prop} (hC : h.get? C = some (peObj nm q C N bs bm hdct sn sub ab col dd k0 k1 k2 k3 k5))
  (hq : Q () ⟨h, g, d, t, os⟩) : wpAny M A (checkBuiltinCall "Exception.__new__" ⟨.ref C :: rest, []⟩) Q E ⟨h, g, d, t, os⟩ := by
 have F := PySem.F.excBase_Exception
 have hcont : (Value.ref C :: bm).contains (.type "Exception") = true := by rw [List.contains_cons, tailX_has F.hasB T, Bool.or_true]
 have hstar := F.noStar
 simp only [checkBuiltinCall, F.newKind, F.newSplit, F.newRow]
 repeat (first | refine wpAny_loadPart_at hC ?_ | (refine wpAny_isSubtype_exc hC ?_; rw [hcont]) | refine wpAny_staticBase_exc hC ?_ | refine wpAny_madeBy_exc hC ?_ | simp only [bne_self_eq_false, Bool.false_eq_true, if_false] | wp_step)
 exact hq
noncomputable abbrev excObj (C t : Addr) (dct : Option Addr) : Obj := { cls := .ref C, dict := dct, data := .fields #[.ref t, .none, .none, .none, .bool false, .none] }
theorem pe_new (T : tailX bm = true) {rest : List Value} (hC : h.get? C = some (peObj nm q C N bs bm hdct sn sub ab col dd k0 k1 k2 k3 k5))
  (hq : R (.ok (.ret (.ref (h.objs.size + 1)))) ⟨(h.push { cls := .type "tuple", data := .seq rest.toArray }).push (excObj C h.objs.size none), g, d, t, os⟩) (hrest : rest.length ≤ sizeLine) :
  codeAny (model prog w) A (.builtin "Exception.__new__" ⟨.ref C :: rest, []⟩) R ⟨h, g, d, t, os⟩ := by
 have F := PySem.F.excBase_Exception
 have hends := F.ends
 have hcB : (Value.ref C :: bm).contains (.type "Exception") = true := by rw [List.contains_cons, tailX_has F.hasB T, Bool.or_true]
 have hcA : (Value.ref C :: bm).contains (.type "AttributeError") = false := by rw [List.contains_cons, tailX_has F.noAttr T]; rfl
 have hcN : (Value.ref C :: bm).contains (.type "NameError") = false := by rw [List.contains_cons, tailX_has F.noName T]; rfl
 refine codeAny_builtinAt F.entry ?_
 unfold Builtin.«BaseException.__new__»
 refine PySem.wpAt_bind ?_
 show PySem.wpAt _ _ _ (stack >>= _) _ _ _
 refine PySem.wpAt_bind (PySem.wpAt_stack fun p below => PySem.wpAt_of_wpAny ?_)
 wp_walk
 refine PySem.wpAt_of_wpAny ?_
 rw [F.owner]
 repeat (first | with_reducible refine wpAny_madeHere_exc F.canon hC ?_ | with_reducible refine wpAny_loadPart_at hC ?_ | (with_reducible refine wpAny_isSubtype_exc hC ?_; first | rw [hcB] | rw [hcA] | rw [hcN]) | wp_step)
 show R _ _
 rw [Heap.size_push]
 exact hq
theorem pe_type_call {K : Frag} (X : K.In h) (T : tailX bm = true) {rest : List Value} {fI : Addr} {Q : PySem.Fin → Shared → Prop}
  (hC : h.get? C = some (peObj nm q C N bs bm hdct sn sub ab col dd k0 k1 k2 k3 k5)) (hi : findIn K (.ref C) "__init__" = some (some (.ref fI))) (hf : typeIn K (.ref fI) = some (.type "function"))
  (hq : wpAny (model prog w) A (call (.ref fI) (.ref (h.objs.size + 1) :: rest)) (fun r s' => r = .none ∧ Q (.done (.ret (.ref (h.objs.size + 1)))) s') E
   ⟨(h.push { cls := .type "tuple", data := .seq rest.toArray }).push { cls := .ref C, data := .fields #[.ref h.objs.size, .none, .none, .none, .bool false, .none] }, g, d, t, os⟩) (hrest : rest.length ≤ sizeLine) :
  wpAny (model prog w) A (Builtin.«type.__call__» ⟨.ref C :: rest, []⟩) Q E ⟨h, g, d, t, os⟩ := by
 have F := PySem.F.excBase_Exception
 repeat (first | with_reducible refine wpAny_loadPart_at hC ?_ | with_reducible refine wpAny_madeBy_exc hC ?_ | wp_step)
 refine codeAny_call_builtin_code (Code.quiet_builtin _ F.quiet) (pe_check_new T hC ?_)
 refine pe_new T hC ?_ hrest
 show wpAny _ _ _ _ _ _
 have k : ∀ b o, h.get? b = some o → ((h.push { cls := .type "tuple", data := .seq rest.toArray }).push { cls := .ref C, data := .fields #[.ref h.objs.size, .none, .none, .none, .bool false, .none] }).get? b = some o := fun b o e => Heap.get?_push_of_some _ (Heap.get?_push_of_some _ e)
 have hC₁ := k _ _ hC
 have hget : ((h.push { cls := .type "tuple", data := .seq rest.toArray }).push { cls := .ref C, data := .fields #[.ref h.objs.size, .none, .none, .none, .bool false, .none] }).get? (h.objs.size + 1) = some { cls := .ref C, data := .fields #[.ref h.objs.size, .none, .none, .none, .bool false, .none] } := by heap_get
 have hcC : (Value.ref C :: bm).contains (.ref C) = true := by simp
 unfold isInstance
 repeat (first | with_reducible refine wpAny_loadPart_at hget ?_ | (with_reducible refine wpAny_isSubtype_exc hC₁ ?_; rw [hcC]) | wp_step)
 show wpAny _ _ (typeLookup (.ref C) _) _ _ _
 have X1 : K.In ((h.push { cls := .type "tuple", data := .seq rest.toArray }).push { cls := .ref C, data := .fields #[.ref h.objs.size, .none, .none, .none, .bool false, .none] }) := fun b o e => k b o (X b o e)
 refine (looks_findIn X1 hi).here ?_
 refine wpAny_holding (wpAny_bind ((bind_fn X1 _ hf).here ?_))
 refine wpAny_bind (wpAny_mono hq (fun r s' hr => ?_) fun _ _ x => x)
 obtain ⟨rfl, hQ⟩ := hr
 wp_walk
 exact hQ
theorem pe_call {K : Frag} (X : K.In h) (T : tailX bm = true) {rest : List Value} {fI : Addr} {Q : Value → Shared → Prop}
  (hC : h.get? C = some (peObj nm q C N bs bm hdct sn sub ab col dd k0 k1 k2 k3 k5)) (hi : findIn K (.ref C) "__init__" = some (some (.ref fI))) (hf : typeIn K (.ref fI) = some (.type "function"))
  (hq : wpAny (model prog w) (A.under (.builtin "type.__call__" ⟨.ref C :: rest, []⟩)) (call (.ref fI) (.ref (h.objs.size + 1) :: rest)) (fun r s' => r = .none ∧ Q (.ref (h.objs.size + 1)) s') E
   ⟨(h.push { cls := .type "tuple", data := .seq rest.toArray }).push { cls := .ref C, data := .fields #[.ref h.objs.size, .none, .none, .none, .bool false, .none] }, g, d, t, os⟩) (hrest : rest.length ≤ sizeLine) :
  wpAny (model prog w) A (call (.ref C) rest) Q E ⟨h, g, d, t, os⟩ := by
 have f1 := tc_lookup
 have f2 := tc_bind (.ref C)
 have hT : (⟨h, g, d, t, os⟩ : Shared).TypeIs (.ref C) "type" := ⟨_, hC, rfl⟩
 refine wpAny_call (codeAny_of_tree ?_)
 show wpAny _ _ (callAny (.ref C) _) _ _ _
 repeat (any_goals (first | assumption | with_reducible refine wpAny_loadPart_at hC ?_ | wp_step))
 refine ⟨rfl, ?_⟩
 exact codeAny_call_builtin_at (Code.quiet_builtin _ (by decide +kernel)) entry_typeCall (wpAny_check_type_call_sub hC (pe_type_call X T hC hi hf hq hrest))
end
section
variable {prog : Program} {w : World} {A : Around} {E : Value → Shared → Prop} {R : Result → Shared → Prop} {h : Heap} {g : Array GenState} {d : Drawn} {t : Nat} {os : OsState}
variable {nm q : Str} {C N x : Addr} {bs bm : List Value} {sn : List Str} {sub : List Value} {ab : Bool} {col : Option Bool} {dd : Option Addr} {k0 k1 k2 k3 k5 : Option Value}
variable {mA : Str → Option Value} {name : Str} {v : Value} {K : Frag}
def Stored (h : Heap) (x C : Addr) (name : Str) (v : Value) (mA : Str → Option Value) (h' : Heap) : Prop :=
 h'.Inst x C (fun y => if y = name then some v else mA y) ∧
 (∀ b o, b ≠ x → (∀ o₀ dx, h.get? x = some o₀ → o₀.dict = some dx → b ≠ dx) → h.get? b = some o → h'.get? b = some o) ∧
 (∀ o₀, h.get? x = some o₀ → ∃ o₁, h'.get? x = some o₁ ∧ o₁.cls = o₀.cls ∧ o₁.data = o₀.data ∧ o₁.slots = o₀.slots ∧ ∀ dx, o₀.dict = some dx → o₁.dict = some dx) ∧
 (∀ o₁ dx, h'.get? x = some o₁ → o₁.dict = some dx → (∃ o₀, h.get? x = some o₀ ∧ o₀.dict = some dx) ∨ h.get? dx = none)
theorem pe_store_entry {tk : Tok} {Q : PySem.Fin → Shared → Prop} {ns : List Str} (X : K.In h) (T : tailX bm = true)
  (hC : h.get? C = some (peObj nm q C N bs bm true sn sub ab col dd k0 k1 k2 k3 k5)) (hna : findIn K (.ref C) name = some none) (I : h.Inst x C mA)
  (hq : ∀ h' tk', Stored h x C name v mA h' → Q (.done (.ret .none)) ⟨h', g, d, tk', os⟩) (hw : Within mA ns) (hsz : ns.length ≤ sizeLine) :
  wpAny (model prog w) A (Builtin.«object.__setattr__» ⟨[.ref x, .str name tk, v], []⟩) Q E ⟨h, g, d, t, os⟩ := by
 obtain ⟨o, hx, hc, hnc, hd⟩ := I
 have hpass := tailX_refuse (.ref x) T
 have hl := looks_findIn (M := model prog w) X hna
 unfold Builtin.«object.__setattr__»
 repeat (first | rw [refuse_eq] | (rw [refuseLoop_ref, hpass]) | (with_reducible refine wpAny_loadPart_at hx ?_; rw [hc]) | with_reducible refine wpAny_mroOf_exc hC ?_ | with_reducible refine hl.at ?_ | wp_step)
 rcases hd with ⟨hdn, hmA⟩ | ⟨dx, hdx, hne, hns⟩
 ·rw [hdn, if_neg (by simp [typeHasDict])]
  split
  ·rename_i hcd
   cases hcd
  split
  ·rename_i c hcd
   exact absurd hcd (hnc c)
  ·have hx₁ : (h.push { cls := .type "dict", data := .dict #[] }).get? x = some o := Heap.get?_push_of_some _ hx
   have hxs : x ≠ h.objs.size := nnl (Heap.lt_size hx)
   refine wpAny_bind (wpAny_alloc' ?_)
   refine wpAny_bind (wpAny_update' hx₁ ?_)
   refine wpAny_pure ?_
   have hgd : ((h.push { cls := .type "dict", data := .dict #[] }).update x fun o => { cls := o.cls, dict := some h.objs.size, data := o.data, slots := o.slots }).get? h.objs.size
     = some { cls := .type "dict", data := .dict #[] } :=
    (Heap.get?_update_ne _ _ _ _ hxs.symm).trans (Heap.get?_push_at rfl rfl)
   have hnd : ((h.push { cls := .type "dict", data := .dict #[] }).update x fun o => { cls := o.cls, dict := some h.objs.size, data := o.data, slots := o.slots }).Ns h.objs.size (fun _ => none) :=
    ⟨_, #[], _, hgd, rfl, fun e he => absurd he (by simp), fun _ => rfl⟩
   show wpAny _ _ (storeInDict h.objs.size (.str name tk) name v) _ _ _
   unfold storeInDict newKeyGuard
   refine wpAny_bind (wpAny_pure (wpAny_bind (wpAny_nsSet1 (Heap.Ns1.of_empty hnd) fun h' hn' hs => ?_)))
   obtain ⟨oD, esD, epD, hoD, hdD, hcD⟩ := hn'.count (Within.cons name v Within.nil)
   refine wpAny_bind (wpAny_lookBehind hoD (by rw [hdD]; exact pastItsLine_dict (nlt hcD (by rw [llc, List.length_nil, sizeLine_eq]; omega))) ?_)
   wp_walk
   have hx' : h'.get? x = some { cls := o.cls, dict := some h.objs.size, data := o.data, slots := o.slots } := by
    refine (hs.2 x hxs).trans (Heap.get?_update_self _ hx₁ ?_)
    have hfr := (Heap.get?_some_iff.mp hx).2
    obtain ⟨oc, od, odt, osl⟩ := o
    cases odt <;> first | rfl | exact hfr
   refine hq h' _ ⟨⟨{ cls := o.cls, dict := some h.objs.size, data := o.data, slots := o.slots }, hx', hc, hnc, .inr ⟨h.objs.size, rfl, hxs.symm, ?_⟩⟩, fun b ob hbx _ hb => ?_,
    fun o₀ h₀ => by obtain rfl : o = o₀ := Option.some.inj (hx.symm.trans h₀); exact ⟨_, hx', rfl, rfl, rfl, fun dx e => by rw [hdn] at e; cases e⟩, fun o₁ dx e1 e2 => .inr ?_⟩
   ·obtain ⟨o', es, ep, e1, e2, e3, eu, e4⟩ := hn'
    exact ⟨o', es, ep, e1, e2, e3, eu, fun y => by rw [e4 y]; by_cases hy : y = name <;> simp [hy, hmA]⟩
   ·exact (hs.2 b (nnl (Heap.lt_size hb))).trans ((Heap.get?_update_ne _ _ _ _ hbx).trans (Heap.get?_push_of_some _ hb))
   ·rw [hx'] at e1
    cases e1
    cases e2
    exact Heap.get?_none_of_le (nlr _)
 ·rw [hdx]
  refine wpAny_pure ?_
  show wpAny _ _ (storeInDict dx (.str name tk) name v) _ _ _
  unfold storeInDict newKeyGuard
  refine wpAny_bind (wpAny_pure (wpAny_bind (wpAny_nsSet1 hns fun h' hn' hs => ?_)))
  obtain ⟨oD, esD, epD, hoD, hdD, hcD⟩ := hn'.count (Within.cons name v hw)
  refine wpAny_bind (wpAny_lookBehind hoD (by rw [hdD]; exact pastItsLine_dict (nlt hcD (by rw [llc]; omega))) ?_)
  wp_walk
  refine hq h' _ ⟨⟨o, (hs.2 x hne.symm).trans hx, hc, hnc, .inr ⟨dx, hdx, hne, hn'⟩⟩, fun b ob _ hbd hb => ?_,
   fun o₀ h₀ => ⟨o₀, (hs.2 x hne.symm).trans h₀, rfl, rfl, rfl, fun _ e => e⟩, fun o₁ dx' e1 e2 => .inl ⟨o, hx, ?_⟩⟩
  ·exact (hs.2 b (hbd o dx hx hdx)).trans hb
  ·rw [(hs.2 x hne.symm).trans hx] at e1
   cases e1
   exact e2
theorem pe_check_sa {M : Model} {o : Obj} {nameV : Value} {Q : Unit → Shared → Prop} (T : tailX bm = true)
  (hC : h.get? C = some (peObj nm q C N bs bm true sn sub ab col dd k0 k1 k2 k3 k5)) (hx : h.get? x = some o) (hc : o.cls = .ref C) (hq : Q () ⟨h, g, d, t, os⟩) :
  wpAny M A (checkBuiltinCall "object.__setattr__" ⟨[.ref x, nameV, v], []⟩) Q E ⟨h, g, d, t, os⟩ := by
 have SF := PySem.F.store_Exception
 have hcB : (Value.ref C :: bm).contains (.type "object") = true := by rw [List.contains_cons, tailX_has (b := true) (by decide +kernel) T, Bool.or_true]
 have ha := SF.args (.ref x) nameV v
 simp only [checkBuiltinCall, SF.kind, SF.split]
 refine wpAny_bind ?_
 ·unfold isInstance
  repeat (first | (with_reducible refine wpAny_loadPart_at hx ?_; rw [hc]) | (with_reducible refine wpAny_isSubtype_exc hC ?_; rw [hcB]) | wp_step)
  exact hq
theorem pe_store {Q : Unit → Shared → Prop} {ns : List Str} (X : K.In h) (T : tailX bm = true)
  (hC : h.get? C = some (peObj nm q C N bs bm true sn sub ab col dd k0 k1 k2 k3 k5)) (hsa : findIn K (.ref C) "__setattr__" = some (some (.builtin "object.__setattr__"))) (hna : findIn K (.ref C) name = some none) (I : h.Inst x C mA)
  (hq : ∀ h' tk', Stored h x C name v mA h' → Q () ⟨h', g, d, tk', os⟩) (hw : Within mA ns) (hsz : ns.length ≤ sizeLine) :
  wpAny (model prog w) A (PySem.setAttr (.ref x) name v) Q E ⟨h, g, d, t, os⟩ := by
 have SF := PySem.F.store_Exception
 obtain ⟨o, hx, hc, _⟩ := id I
 have f3 := SF.slot.bind (.ref x)
 have hl := looks_findIn (M := model prog w) X hsa
 unfold PySem.setAttr callSpecial? specialOf
 repeat (any_goals (first | assumption | (with_reducible refine wpAny_loadPart_at hx ?_; rw [hc]) | with_reducible refine hl.at ?_ | wp_step))
 refine codeAny_call_builtin SF.slot.plain SF.entry (pe_check_sa T hC hx hc (pe_store_entry X T hC hna I (fun h' tk' hs => ?_) hw hsz))
 repeat (any_goals (first | assumption | wp_step))
 exact hq h' tk' hs
end
end
section
open PySem PySem.W PySem.Calls PyProof.Rows
inductive PeCls (g : G) : Prop
 | mk (nm q : Str) (N : Addr) (bs bm : List Value) (sn : List Str) (sub : List Value) (ab : Bool) (col : Option Bool) (dd : Option Addr) (k0 k1 k2 k3 k5 : Option Value) (hC : g.K.lookup g.T.pe = some (peObj nm q g.T.pe N bs bm true sn sub ab col dd k0 k1 k2 k3 k5)) (T : tailX bm = true)
noncomputable abbrev iniBody (sf m1 m2 a1 a2 : Str) (p1 p2 p3 p4 p5 p6 p7 p8 : Pos) : List Stmt := [.Assign [.Attribute (.Name sf p1) a1 p2] (.Name m1 p3) p4, .Assign [.Attribute (.Name sf p5) a2 p6] (.Name m2 p7) p8]
inductive PeIni (g : G) : Prop
 | mk (fI : Addr) (sf m1 m2 a1 a2 : Str) (p1 p2 p3 p4 p5 p6 p7 p8 : Pos) (sc : Scope) (hi : findIn g.K (.ref g.T.pe) "__init__" = some (some (.ref fI))) (hf : typeIn g.K (.ref fI) = some (.type "function"))
  (Fo : FunOk g fI ⟨[sf, m1, m2], sc, iniBody sf m1 m2 a1 a2 p1 p2 p3 p4 p5 p6 p7 p8⟩) (l0 : sc.names.lookup sf = some .local) (l1 : sc.names.lookup m1 = some .local) (l2 : sc.names.lookup m2 = some .local)
  (d0 : (sf == ("__debug__" : Str)) = false) (d1 : (m1 == ("__debug__" : Str)) = false) (d2 : (m2 == ("__debug__" : Str)) = false) (n1 : findIn g.K (.ref g.T.pe) a1 = some none) (n2 : findIn g.K (.ref g.T.pe) a2 = some none)
structure PeOk (g : G) : Prop where
 cls : PeCls g
 keep : keepIn g.K (.ref g.T.pe) = true
 sa : findIn g.K (.ref g.T.pe) "__setattr__" = some (some (.builtin "object.__setattr__"))
 ini : PeIni g
section
variable {prog : Program} {w : World} {A : Around} {E : Value → Shared → Prop} {s : Shared} {env : Env}
theorem attr_stmt {sf m a : Str} {p1 p2 p3 p4 : Pos} {ml : Str → Option Value} {e : Addr} {v : Value} (hk : env.scope.kind = .function) (k1 : env.kindOf sf = some .local) (k2 : env.kindOf m = some .local)
  (d1 : (sf == ("__debug__" : Str)) = false) (d2 : (m == ("__debug__" : Str)) = false) (hn : s.heap.Ns env.locals ml) (h1 : ml sf = some (.ref e)) (h2 : ml m = some v) {Q : Flow → Shared → Prop}
  (h : wpAny (model prog w) A (PySem.setAttr (.ref e) a v) (fun _ s' => Q .next s') E s) : wpAny (model prog w) A (exec (.Assign [.Attribute (.Name sf p1) a p2] (.Name m p3) p4) env) Q E s := by
 have hsw : swapsWithSole [.Attribute (.Name sf p1) a p2] (.Name m p3) p4.line env = pure false := rfl
 rw [exec_Assign_arm, hsw]
 refine wpAny_bind (wpAny_standAt (wpAny_bind (wpAny_pure ?_)))
 refine wpAny_bind (wpAny_Name (wpAny_loadName_local hk k2 hn h2 ?_) d2)
 have hss : swappedStores [.Attribute (.Name sf p1) a p2] (.Name m p3) env = pure none := rfl
 rw [hss]
 refine wpAny_bind (wpAny_pure ?_)
 show wpAny _ _ (assignAll v ((assignEach [.Attribute (.Name sf p1) a p2] env).map (·.2)) >>= fun _ => pure Flow.next) _ _ _
 rw [assignAll_one rfl]
 show wpAny _ _ ((do let ov ← PySem.holding [v] (eval (.Name sf p1) env); PySem.standAt p2.atName; PySem.holding [v, ov] (PySem.setAttr ov a v); release [v, ov] []) >>= fun _ => pure Flow.next) _ _ _
 refine wpAny_bind (wpAny_bind (wpAny_holding (wpAny_Name (wpAny_loadName_local hk k1 hn h1 ?_) d1)))
 refine wpAny_bind (wpAny_standAt (wpAny_bind (wpAny_holding (wpAny_mono h (fun _ s' hq => wpAny_release (wpAny_pure hq)) fun _ _ x => x))))
noncomputable abbrev excO (C tt : Addr) : Obj := { cls := .ref C, data := .fields #[.ref tt, .none, .none, .none, .bool false, .none] }
inductive KnownC (h : Heap) (C : Addr) : Prop
 | mk (nm q : Str) (N : Addr) (bs bm : List Value) (hdct : Bool) (sn : List Str) (sub : List Value) (ab : Bool) (col : Option Bool) (dd : Option Addr) (k0 k1 k2 k3 k5 : Option Value) (hC : h.get? C = some (peObj nm q C N bs bm hdct sn sub ab col dd k0 k1 k2 k3 k5)) (T : tailX bm = true)
inductive MadeE (C : Addr) (E : Value → Shared → Prop) (v : Value) (s : Shared) : Prop
 | mk (e : Addr) (oe : Obj) (tt : Addr) (hv : v = .ref e) (K : KnownC s.heap C) (he : s.heap.get? e = some oe) (hc : oe.cls = .ref C) (hd : oe.data = .fields #[.ref tt, .none, .none, .none, .bool false, .none]) (hE : E (.ref e) s)
theorem raise_made {C : Addr} {x : Sem Value} {Q : Flow → Shared → Prop} (hh : A.handled = none) (h : wpAny (model prog w) A x (MadeE C E) E s) : wpAny (model prog w) A (raiseStmt env (some x) none) Q E s := by
 unfold raiseStmt
 refine wpAny_bind (wpAny_mono h (fun v s₁ h₁ => ?_) fun _ _ x => x)
 cases h₁ with | mk e oe tt hv K he hcls hdt hE =>
 cases K with | mk nm q N bs bm hdct sn sub ab col dd k0 k1 k2 k3 k5 hC T =>
 have hcB : (Value.ref C :: bm).contains (.type "BaseException") = true := by rw [List.contains_cons, tailX_has (b := true) (by decide +kernel) T, Bool.or_true]
 subst hv
 obtain ⟨hp, g, d, tk, os⟩ := s₁
 obtain ⟨oc, od, odt, osl⟩ := oe
 dsimp only at hcls hdt
 subst hcls hdt
 repeat (first | with_reducible refine wpAny_loadPart_at he ?_ | with_reducible refine wpAny_loadPart_at hC ?_ | (with_reducible refine wpAny_isSubtype_exc hC ?_; rw [hcB]) | wp_step)
 exact wpAny_raiseNew_none hh hE
end
section
variable {g : G} {mg mb : Str → Option Value} {cfg : Cfg} {n u : Nat} {f : Fm} {c : Cx} {s : Shared} {sc cs : Scope} {le : LEnv} {y : Addr → Prop}
structure Kept1 (h h' : Heap) (e : Addr) (o : Obj) : Prop where
 o : ∃ o', h'.get? e = some o' ∧ o'.cls = o.cls ∧ o'.data = o.data
 k : ∀ b ob, b ≠ e → h.get? b = some ob → h'.get? b = some ob
theorem two_stores {env : Env} {sf m1 m2 a1 a2 : Str} {p1 p2 p3 p4 p5 p6 p7 p8 : Pos} {K : Frag} {C L e : Addr} {nm q : Str} {N : Addr} {bs bm : List Value} {sn : List Str} {sub : List Value} {ab : Bool} {col : Option Bool} {dd : Option Addr} {k0 k1 k2 k3 k5 : Option Value}
  (hC : K.lookup C = some (peObj nm q C N bs bm true sn sub ab col dd k0 k1 k2 k3 k5)) (T : tailX bm = true) (hsa : findIn K (.ref C) "__setattr__" = some (some (.builtin "object.__setattr__"))) (n1 : findIn K (.ref C) a1 = some none) (n2 : findIn K (.ref C) a2 = some none)
  (hk : env.scope.kind = .function) (hl : env.locals = L) (k0' : env.kindOf sf = some .local) (k1' : env.kindOf m1 = some .local) (k2' : env.kindOf m2 = some .local) (d0 : (sf == ("__debug__" : Str)) = false) (d1 : (m1 == ("__debug__" : Str)) = false) (d2 : (m2 == ("__debug__" : Str)) = false)
  {ml : Str → Option Value} (hn : s.heap.Ns L ml) (q0 : ml sf = some (.ref e)) {v1 v2 : Value} (q1 : ml m1 = some v1) (q2 : ml m2 = some v2) (kin : K.In s.heap) (hKe : ∀ a o, K.lookup a = some o → a ≠ e) (hLe : L ≠ e) {tt : Addr} (he : s.heap.get? e = some (excO C tt)) {A : Around} {Q : Flow → Shared → Prop} {E : Value → Shared → Prop}
  (hq : ∀ h' tk, Kept1 s.heap h' e (excO C tt) → Q .next { s with heap := h', toks := tk }) : wpAny (model g.prog g.w) A (execs (iniBody sf m1 m2 a1 a2 p1 p2 p3 p4 p5 p6 p7 p8) env) Q E s := by
 subst hl
 obtain ⟨hx, gg, dr, tk, os⟩ := s
 rw [execs_cons]
 refine wpAny_bind (attr_stmt hk k0' k1' d0 d1 hn q0 q1 (pe_store kin T (kin _ _ hC) hsa n1 ⟨_, he, rfl, (fun _ q => by cases q), .inl ⟨rfl, fun _ => rfl⟩⟩ (fun h2 tk2 S2 => ?_) Within.nil (Nat.zero_le _)))
 have kp2 : ∀ b o, b ≠ e → hx.get? b = some o → h2.get? b = some o := fun b o nb eb => S2.2.1 b o nb (fun o₀ dx e1 e2 => by cases some_nil (he.symm.trans e1); cases e2) eb
 have kin2 : K.In h2 := fun a o e1 => kp2 a o (hKe a o e1) (kin a o e1)
 rw [execs_cons]
 refine wpAny_bind (attr_stmt hk k0' k2' d0 d2 (Ns_keep (fun o e1 => ⟨o, kp2 _ o hLe e1, rfl⟩) hn) q0 q2 (pe_store kin2 T (kin2 _ _ hC) hsa n2 S2.1 (fun h3 tk3 S3 => wpAny_execs_nil (hq h3 tk3 ⟨?_, fun b o nb eb => S3.2.1 b o nb (fun o₀ dx f1 f2 q => ?_) (kp2 b o nb eb)⟩)) (Within.cons a1 v1 Within.nil) (by rw [sizeLine_eq]; exact (by decide : 1 ≤ 16777216))))
 ·exact (S2.2.2.1 _ he).elim fun o2 z => (S3.2.2.1 _ z.1).imp fun o3 y => ⟨y.1, y.2.1.trans z.2.1, y.2.2.1.trans z.2.2.1⟩
 ·refine (S2.2.2.2 o₀ dx f1 f2).elim (fun z => z.elim fun o4 z => by cases some_nil (he.symm.trans z.1); cases z.2) fun z => ?_
  rw [← q, eb] at z; cases z
theorem bind3 {b : Str → Bool} {x y z : Str} {u v w : Value} (nd : [x, y, z].Nodup) (hx : b x = true) (hy : b y = true) (hz : b z = true) :
  bindG b [(x, u), (y, v), (z, w)] (fun _ => none) x = some u ∧ bindG b [(x, u), (y, v), (z, w)] (fun _ => none) y = some v ∧ bindG b [(x, u), (y, v), (z, w)] (fun _ => none) z = some w := by
 have n1 := List.nodup_cons.mp nd
 have n2 := List.nodup_cons.mp n1.2
 have kd : ∀ {x : Str} {v : Value} {m : Str → Option Value}, b x = true → (if b x = true then (fun y => if y = x then some v else m y) else m) x = some v := fun {x v m} h => (congrFun (if_pos h) x).trans (if_pos rfl)
 exact ⟨(bindG_keep (b := b) (ps := [y, z]) (vs := [v, w]) n1.1).trans (kd hx), (bindG_keep (b := b) (ps := [z]) (vs := [w]) n2.1).trans (kd hy), kd hz⟩
theorem pe_made (H : GOk g mg mb) (P : PeOk g) {A : Around} (hdp : A.depth ≤ 900) (kB : ∀ b o, g.hB.get? b = some o → s.heap.get? b = some o) {v1 v2 : Value} {E : Value → Shared → Prop} {Q : Value → Shared → Prop}
  (hq : ∀ s' oe, s'.heap.get? (s.heap.objs.size + 1) = some oe → oe.cls = .ref g.T.pe → oe.data = .fields #[.ref s.heap.objs.size, .none, .none, .none, .bool false, .none] →
   (∀ b o, s.heap.get? b = some o → s'.heap.get? b = some o) → s'.gens = s.gens → s'.os = s.os → Q (.ref (s.heap.objs.size + 1)) s') :
  wpAny (model g.prog g.w) A (PySem.call (.ref g.T.pe) [v1, v2] []) Q E s := by
 have kin : g.K.In s.heap := fun a o e => kB a o (H.kin a o e)
 cases P.cls with | mk nm q N bs bm sn sub ab col dd k0 k1 k2 k3 k5 hC T =>
 cases P.ini with | mk fI sf m1 m2 a1 a2 p1 p2 p3 p4 p5 p6 p7 p8 sc hi hf Fo l0 l1 l2 d0 d1 d2 n1 n2 =>
 obtain ⟨hh, gg, dr, tk, os⟩ := s
 refine pe_call kin T (kin _ _ hC) hi hf ?_ (by rw [sizeLine_eq]; exact (by decide : 2 ≤ 16777216))
 generalize hA1 : A.under (.builtin "type.__call__" ⟨.ref g.T.pe :: [v1, v2], []⟩) = A1
 have dA1 : A1.depth = A.depth + 1 := by rw [← hA1]; rfl
 have kk : ∀ b o, hh.get? b = some o → ((hh.push (seqO "tuple" [v1, v2].toArray 0)).push (excO g.T.pe hh.objs.size)).get? b = some o := fun b o e => Heap.get?_push_of_some _ (Heap.get?_push_of_some _ e)
 have sz : (hh.push (seqO "tuple" [v1, v2].toArray 0)).objs.size = hh.objs.size + 1 := Heap.size_push _ _
 have ge : ((hh.push (seqO "tuple" [v1, v2].toArray 0)).push (excO g.T.pe hh.objs.size)).get? (hh.objs.size + 1) = some (excO g.T.pe hh.objs.size) := by rw [← sz]; exact Heap.get?_push_size _ rfl
 show wpAny _ A1 (call (.ref fI) [.ref (hh.objs.size + 1), v1, v2]) _ E ⟨(hh.push (seqO "tuple" [v1, v2].toArray 0)).push (excO g.T.pe hh.objs.size), gg, dr, tk, os⟩
 generalize (hh.push (seqO "tuple" [v1, v2].toArray 0)).push (excO g.T.pe hh.objs.size) = h1 at kk ge ⊢
 have noE : hh.get? (hh.objs.size + 1) = none := Heap.get?_none_of_le (Nat.le_succ _)
 dsimp only at hq
 generalize hh.objs.size + 1 = e at ge noE hq ⊢
 generalize hh.objs.size = tt at ge hq
 have kB1 : ∀ b o, g.hB.get? b = some o → h1.get? b = some o := fun b o e => kk b o (kB b o e)
 cases Fo.at_ with | mk o fd ho hdata hbo hsc hclo hglo hblt hcr hbind =>
 refine wpAny_call (code_cells (nll (noe dA1) (nll (Nat.succ_le_succ hdp) (by decide))) (kB1 _ _ ho) hdata (H.lim.keeps kB1) (hcr.imp fun c1 z => z.imp fun o1 z => z.imp fun vs z => z.imp fun t z => ⟨z.1, kB1 _ _ z.2.1, z.2.2⟩) hbo (hbind [.ref e, v1, v2] rfl) hclo (fun z hz => .inl ?_) (fun s1 I _ => ?_)
  ((congrArg _ hsc).trans Fo.co) ((congrArg _ hsc).trans Fo.ge) ((congrArg _ hsc).trans Fo.fn))
 ·rw [hsc]
  have hm : z.1 ∈ [sf, m1, m2] := (List.of_mem_zip (a := z.1) (b := z.2) hz).1
  exact (lmc hm).elim (fun q => q ▸ l0) fun hm => (lmc hm).elim (fun q => q ▸ l1) fun hm => (List.mem_singleton.mp hm) ▸ l2
 have ek : ∀ x, (callEnvC fd h1.objs.size fI).kindOf x = sc.names.lookup x := fun x => congrArg (fun sc : Scope => sc.names.lookup x) hsc
 obtain ⟨hx, tkx, rfl⟩ := I.toInCall.same
 have keep1 : ∀ b o, h1.get? b = some o → hx.get? b = some o := I.toInCall.keep
 have hns := I.toInCall.ns
 rw [bindL_eq] at hns
 have B := bind3 (b := fun x => decide ((callEnvC fd h1.objs.size fI).kindOf x = some .local)) (u := .ref e) (v := v1) (w := v2) Fo.nd (decide_eq_true ((ek _).trans l0)) (decide_eq_true ((ek _).trans l1)) (decide_eq_true ((ek _).trans l2))
 refine two_stores (L := h1.objs.size) (e := e) (tt := tt) hC T P.sa n1 n2 ((congrArg Scope.kind hsc).trans Fo.fn) rfl ((ek _).trans l0) ((ek _).trans l1) ((ek _).trans l2) d0 d1 d2 hns B.1 B.2.1 B.2.2
  (fun a o e1 => keep1 a o (kB1 a o (H.kin a o e1))) (fun a o e1 q => by have := kB a o (H.kin a o e1); rw [q, noE] at this; cases this) (fun q => Nat.lt_irrefl _ (q ▸ Heap.lt_size ge : h1.objs.size < h1.objs.size)) (keep1 _ _ ge) fun h' tk' S => ⟨rfl, ?_⟩
 exact S.o.elim fun o3 z => hq ⟨h', gg, dr, tk', os⟩ o3 z.1 z.2.1 z.2.2 (fun b o eb => S.k b o (fun q => by rw [q, noE] at eb; cases eb) (keep1 b o (kk b o eb))) rfl rfl
end
section
variable {g : G} {mg mb : Str → Option Value} {cfg : Cfg} {n u : Nat} {f : Fm} {c : Cx} {s : Shared} {sc cs : Scope} {le : LEnv} {y : Addr → Prop}
theorem exc_new (X : St g c s) (F : FrSt g sc f le c) {s' : Shared} {oe : Obj} {tt : Addr} (h1 : s'.heap.get? (s.heap.objs.size + 1) = some oe) (h2 : oe.cls = .ref g.T.pe) (h3 : oe.data = .fields #[.ref tt, .none, .none, .none, .bool false, .none])
  (k : ∀ b o, s.heap.get? b = some o → s'.heap.get? b = some o) (hg : s'.gens = s.gens) (ho : s'.os = s.os) : Exc g f.envs c (.ref (s.heap.objs.size + 1)) s' := by
 have noE : s.heap.get? (s.heap.objs.size + 1) = none := Heap.get?_none_of_le (Nat.le_succ _)
 refine ⟨⟨hideAll s.heap (f.envs.filterMap (·.frame)), s.heap.objs.size + 1, .ref tt, rfl, ?_, fun b o e => k b o (of_hideAll _ e), ?_, fun a o z => ?_, .inl ⟨oe, _, h1, h2, h3, rfl, rfl⟩⟩, fun a o e _ _ _ => ⟨o, k a o (X.heap ▸ e), .refl o⟩, hg.trans X.gens, ho.trans X.os⟩
 ·cases hq : (hideAll s.heap (f.envs.filterMap (·.frame))).get? (s.heap.objs.size + 1) with
  | none => rfl
  | some o => exact nos (noE.symm.trans (of_hideAll _ hq))
 ·exact (funFrames_hide (as := f.envs.filterMap (·.frame)) (X.heap ▸ F.frs) fun env he a ha => List.mem_filterMap.mpr ⟨env, he, ha⟩).of_keeps fun b o e _ => ⟨o, k b o e, rfl⟩
 ·exact hideAll_get _ (X.heap ▸ z.e) fun hm => (List.mem_filterMap.mp hm).elim fun env q => z.w (F.frO env q.1 a q.2).2
inductive RaiseS (o : Option Expr) (p : Str × List Expr) : Prop
 | mk (xp cp : Pos) (e : o = some (.Call (.Name p.1 xp) p.2 [] cp)) (hp : plainArgs p.2 = true) (hl : p.2.length = 2)
theorem raiseOf_eq {o : Option Expr} {p : Str × List Expr} (h : raiseOf o = some p) : RaiseS o p :=
 (bes h).elim fun q z => (bes z.1).elim fun e y => (bes z.2).elim fun x v => (nameOf_eq v.1).elim fun xp hx => by
  by_cases hc : plainArgs q.2 = true ∧ q.2.length = 2
  ·cases some_nil ((if_pos hc).symm.trans v.2)
   have he : ∃ cp, e = .Call q.1 q.2 [] cp := by
    cases e with
    | Call f args kws cp =>
     cases kws with
     | nil => cases y.2; exact ⟨cp, rfl⟩
     | cons => exact nos y.2
    | _ => exact nos y.2
   exact he.elim fun cp he => ⟨xp, cp, by rw [y.1, he, hx], hc.1, hc.2⟩
  ·exact nos ((if_neg hc).symm.trans v.2)
theorem two_of {α : Type} {l : List α} (h : l.length = 2) : ∃ a b, l = [a, b] := by
 cases l with
 | nil => cases h
 | cons a l => cases l with
  | nil => cases h
  | cons b l => cases l with
   | nil => exact ⟨a, b, rfl⟩
   | cons => cases h
theorem raise_call (H : GOk g mg mb) (hk : TK g) (C : CallOk g cfg n u) (P : PeOk g) (Z : Pl g n u sc f le c s) {x : Str} {xp cp pos : Pos} {args : List Expr} (hp : plainArgs args = true) (hl : args.length = 2) {r : O (Fl × LEnv)} (hr : r ≠ .bad)
  (hres : M.bind (ev cfg (.Name x xp) sc le) (fun fv => M.bind (evs cfg args sc le) fun _ => raiseM (isPe cfg (some fv))) c.st = r) :
  wpAny (model g.prog g.w) f.A (eval (.Call (.Name x xp) args [] cp) f.env >>= fun v => PySem.standAt pos >>= fun _ => pure v) (MadeE g.T.pe (fun e s' => r = .exc ∧ ExcP g f.envs (own f) c e s')) (fun e s' => r = .exc ∧ ExcP g f.envs (own f) c e s') s := by
 have he : eval (.Call (.Name x xp) args [] cp) f.env = (eval (.Name x xp) f.env >>= fun fv => PySem.callWith cp fv [] (backTo cp (starEach args f.env)) (backToKw cp (keywordEach [] f.env))) := rfl
 rw [he, backTo_plain (plain_star hp)]
 refine wpAny_bind (wpAny_bind (wpAny_mono (ev_ok H hk C (.Name x xp) Z fun q => hr (hres.symm.trans (bind_bad q))) (fun fv s1 p => ?_) fun e s1 hx => ⟨hres.symm.trans (bind_exc hx.1), hx.2.toP⟩))
 cases p with | mk a c1 e1 X1 A1 r1 =>
 have hres := (bind_ok e1).symm.trans hres
 have Z1 := Z.adv X1 A1
 refine callWith_of (P := fun h => KeepAt (model g.prog g.w) h fv) (by rw [plain_any]; rfl) (fun _ q => q) (evalArgs_all plain_any (wpAny_mono (evs_of (fun e _ => ev_ok H hk C e) Z1 fun q => hr (hres.symm.trans (bind_bad q))) (fun vs s2 p => ?_) fun e s2 hx => ⟨hres.symm.trans (bind_exc hx.1), (hx.2.back A1).toP⟩))
 cases p with | mk as c2 e2 X2 A2 r2 =>
 have hres := (bind_ok e2).symm.trans hres
 have hpe : isPe cfg (some a) = true := Classical.byContradiction fun q => hr (hres.symm.trans (if_neg q))
 have hexc : r = .exc := hres.symm.trans (if_pos hpe)
 have ha := some_nil (isPe_eq hpe)
 rw [ha, C.T] at r1
 cases (r1 : fv = .ref g.T.pe)
 refine ⟨keeps_K P.keep _ (X2.kin H), (two_of (r2.length.symm.trans ((evs_len e2).trans hl))).elim fun v1 z => z.elim fun v2 z => ?_⟩
 subst z
 refine pe_made H P (nlt (nla _ _) Z.Y.dep) X2.stays fun s3 oe h1 h2 h3 k hg ho => wpAny_bind (wpAny_standAt (wpAny_pure ?_))
 have K3 : KnownC s3.heap g.T.pe := by
  cases P.cls with | mk nm q N bs bm sn sub ab col dd k0 k1 k2 k3 k5 hC T => exact ⟨nm, q, N, bs, bm, true, sn, sub, ab, col, dd, k0, k1, k2, k3, k5, k _ _ (X2.kin H _ _ hC), T⟩
 exact ⟨_, oe, _, rfl, K3, h1, h2, h3, hexc, (((exc_new X2 (Z1.adv X2 A2).F h1 h2 h3 k hg ho).back A2).back A1).toP⟩
theorem ex_Raise (H : GOk g mg mb) (hk : TK g) (C : CallOk g cfg n u) (P : PeOk g) (o k : Option Expr) (pos : Pos) : ExOk g cfg n u (.Raise o k pos) := fun sc f le c s Z _ =>
 W.ite (m := match raiseOf o with | some p => M.bind (M.opt (evName cfg.T sc p.1 le)) fun fv => M.bind (evs cfg p.2 sc le) fun _ => raiseM (isPe cfg (some fv)) | none => M.bad) fun hk0 => by
  cases Option.isNone_iff_eq_none.mp hk0
  cases hq : raiseOf o with
  | none => exact W.bad
  | some p =>
   cases raiseOf_eq hq with | mk xp cp e hp hl =>
   subst e
   intro hr
   rw [arm_exec_Raise]
   exact wpAny_bind (wpAny_standAt (raise_made (C := g.T.pe) Z.Y.hd (raise_call H hk C P Z (xp := xp) hp hl hr rfl)))
end
section
variable {g : G} {mg mb : Str → Option Value} {cfg : Cfg} {n u : Nat} {f : Fm} {c : Cx} {s : Shared} {sc cs : Scope} {le : LEnv} {y : Addr → Prop}
theorem stA (t a b p : Nat) : a < 1 + t + a + b + p ∧ b < 1 + t + a + b + p := by omega
theorem stB (t q a b p : Nat) : a < 1 + t + q + a + b + p := by omega
theorem stC (a q b r p : Nat) : a < 1 + a + q + b + r + p := by omega
theorem ex_all (H : GOk g mg mb) (hk : TK g) (C : CallOk g cfg n u) (P : PeOk g) (hpe : ktsIn g.K g.T.pe "BaseException" = true) : ∀ (k : Nat) (st : Stmt), sizeOf st < k → ExOk g cfg n u st
 | 0, _, h => absurd h (Nat.not_lt_zero _)
 | k + 1, st, h => by
  have sub : ∀ b : List Stmt, sizeOf b < sizeOf st → ExsOk g cfg n u b := fun b hb => exs_of fun st' hm => ex_all H hk C P hpe k st' (lll (Nat.lt_trans (List.sizeOf_lt_of_mem hm) hb) (Nat.le_of_lt_succ h))
  cases st with
  | Expr v pos => exact ex_Expr H hk C v pos
  | Pass pos => exact ex_Pass pos
  | Return v pos => exact ex_Return H hk C v pos
  | Assign ts v pos => exact ex_Assign H hk C ts v pos
  | If t a b pos => exact ex_If H hk C t a b pos (sub a (Nat.lt_of_lt_of_eq (stA _ _ _ _).1 (Stmt.If.sizeOf_spec ..).symm)) (sub b (Nat.lt_of_lt_of_eq (stA _ _ _ _).2 (Stmt.If.sizeOf_spec ..).symm))
  | While t b o pos => exact ex_While H hk C t b o pos (sub b (Nat.lt_of_lt_of_eq (stA _ _ _ _).1 (Stmt.While.sizeOf_spec ..).symm))
  | For t it b o pos => exact ex_For H hk C t it b o pos (sub b (Nat.lt_of_lt_of_eq (stB _ _ _ _ _) (Stmt.For.sizeOf_spec ..).symm))
  | Raise e ca pos => exact ex_Raise H hk C P e ca pos
  | Try b hs o fi pos => exact ex_Try H C.T hpe b hs o fi pos (sub b (Nat.lt_of_lt_of_eq (stC _ _ _ _ _) (Stmt.Try.sizeOf_spec ..).symm))
  | _ => exact fun _ _ _ _ _ _ _ => W.bad' rfl
theorem exs_ok (H : GOk g mg mb) (hk : TK g) (C : CallOk g cfg n u) (P : PeOk g) (hpe : ktsIn g.K g.T.pe "BaseException" = true) (b : List Stmt) : ExsOk g cfg n u b := exs_of fun st _ => ex_all H hk C P hpe _ st (nls _)
structure ProgOk (g : G) : Prop where
 fn : ∀ a mf, g.T.fn a = some mf → FunOk g a mf
 cl : ∀ a ci, g.T.cls a = some ci → ClsOk g a ci
 keepF : ∀ a, (g.T.fn a).isSome = true → keepIn g.K (.ref a) = true
 keepC : ∀ a, (g.T.cls a).isSome = true → keepIn g.K (.ref a) = true
 pe : PeOk g
 kts : ktsIn g.K g.T.pe "BaseException" = true
theorem code_ok (H : GOk g mg mb) (hk : TK g) (Pk : ProgOk g) {K n : Nat} (prev : ∀ m, n = m + 1 → CallOk g ⟨g.T, K, callN g.T K m⟩ m 8) {a : Nat} (hf : (g.T.fn a).isSome = true) : CodeOk g (callN g.T K n a) a n := fun A envs c s args vals hfr hhd hd hu X R ra hb f eA eE => by
 subst eA eE
 cases n with
 | zero => exact absurd rfl hb
 | succ n => exact (Option.isSome_iff_exists.mp hf).elim fun mf hmf => call_code H.lim hmf (Pk.fn a mf hmf) (exs_ok H hk (prev n rfl) Pk.pe Pk.kts mf.body) hfr hhd (by omega) (by omega) X R ra hb
theorem call_ok (H : GOk g mg mb) (hk : TK g) (Pk : ProgOk g) (K : Nat) : ∀ n : Nat, CallOk g ⟨g.T, K, callN g.T K n⟩ n 8 := fun n => by
 have prev : ∀ m, n = m + 1 → CallOk g ⟨g.T, K, callN g.T K m⟩ m 8 := fun m h => by subst h; exact call_ok H hk Pk K m
 refine ⟨rfl, fun {sc f le c s a args vals} Z ra hf => ?_, fun {sc f le c s a ci args vals} Z ra hfn hcl => ?_, Pk.keepF, Pk.keepC⟩
 ·intro hb
  refine wpAny_call (codeAny_mono (code_ok H hk Pk prev hf Z.Y.fr Z.Y.hd (Nat.le_succ_of_le Z.Y.dep) (by have := Z.Y.uni; omega) Z.X ⟨Z.F.frs, Z.F.frO, Z.F.wf⟩ ra hb f rfl rfl) fun r s' hr => ?_)
  cases r with
  | error => exact hr
  | ok v =>
   cases v with
   | ret v => exact hr
   | _ => exact hr.elim
 ·exact new_code H (Pk.cl a ci hcl) (code_ok H hk Pk prev (Pk.cl a ci hcl).fn) Z.Y.fr Z.Y.hd Z.Y.dep (by have := Z.Y.uni; omega) Z.X ⟨Z.F.frs, Z.F.frO, Z.F.wf⟩ ra
end
end
section
open PySem
set_option genInjectivity false
set_option genSizeOf false
section
variable {R : Type}
abbrev EL := List (Str × MV)
noncomputable def lk (E : EL) : LEnv := fun y => E.lookup y
noncomputable def s0 : MSt := ⟨0, fun _ => .gone⟩
inductive Pg (R : Type) where
 | bad | exc
 | ret (r : R)
 | v (m : M MV) (k : MV → Pg R)
 | x (m : M (Fl × LEnv)) (k : Fl → EL → Pg R)
inductive Sp (R : Type) where
 | no | exc
 | ret (r : R)
 | exv (m : M MV)
 | v (m : M MV) (t : Sp R)
 | x (m : M (Fl × LEnv)) (t : Sp R)
inductive Rn : Pg R → MSt → O R → Prop
 | ret (r : R) (s : MSt) : Rn (.ret r) s (.ok r s)
 | exc (s : MSt) : Rn .exc s .exc
 | exv {s : MSt} {m : M MV} (k : MV → Pg R) (h : m s = .exc) : Rn (.v m k) s .exc
 | v {s s1 : MSt} {o : O R} {m : M MV} {k : MV → Pg R} {a : MV} (h : m s = .ok a s1) (t : Rn (k a) s1 o) : Rn (.v m k) s o
 | x {s s1 : MSt} {o : O R} {m : M (Fl × LEnv)} {k : Fl → EL → Pg R} {fl : Fl} {E : EL} (h : m s = .ok (fl, lk E) s1) (t : Rn (k fl E) s1 o) : Rn (.x m k) s o
structure Tr (R : Type) (s : MSt) (o : O R) where
 on : Pg R → Sp R
 ops : Sp R
 ok : ∀ p, on p = ops → Rn p s o
noncomputable def Pg.eR (p : Pg R) : Sp R := match p with | .ret r => .ret r | .exc => .exc | .v m _ => .exv m | _ => .no
noncomputable def Pg.eV (a : MV) (t : Pg R → Sp R) (p : Pg R) : Sp R := match p with | .v m k => .v m (t (k a)) | _ => .no
noncomputable def Pg.eF (fl : Fl) (E : EL) (t : Pg R → Sp R) (p : Pg R) : Sp R := match p with | .x m k => .x m (t (k fl E)) | _ => .no
noncomputable def Tr.ret {s : MSt} (r : R) : Tr R s (.ok r s) := ⟨Pg.eR, .ret r, fun p e => by
 cases p with
 | ret => cases e; exact .ret r s
 | _ => cases e⟩
noncomputable def Tr.exc {s : MSt} : Tr R s .exc := ⟨Pg.eR, .exc, fun p e => by
 cases p with
 | exc => exact .exc s
 | _ => cases e⟩
noncomputable def Tr.exv {s : MSt} {m : M MV} (h : m s = .exc) : Tr R s .exc := ⟨Pg.eR, .exv m, fun p e => by
 cases p with
 | v => injection e with e; subst e; exact .exv _ h
 | _ => cases e⟩
noncomputable def Tr.v {s s1 : MSt} {o : O R} {m : M MV} {a : MV} (h : m s = .ok a s1) (t : Tr R s1 o) : Tr R s o := ⟨Pg.eV a t.on, .v m t.ops, fun p e => by
 cases p with
 | v => injection e with e e2; subst e; exact .v h (t.ok _ e2)
 | _ => cases e⟩
noncomputable def Tr.x {s s1 : MSt} {o : O R} {m : M (Fl × LEnv)} {fl : Fl} {E : EL} (h : m s = .ok (fl, lk E) s1) (t : Tr R s1 o) : Tr R s o := ⟨Pg.eF fl E t.on, .x m t.ops, fun p e => by
 cases p with
 | x => injection e with e e2; subst e; exact .x h (t.ok _ e2)
 | _ => cases e⟩
noncomputable def O.map {α β : Type} (f : α → β) (o : O α) : O β := match o with
 | .bad => .bad | .exc => .exc | .ok a s => .ok (f a) s
def Sd {R' : Type} (φ : R → R') (p : Pg R) (m : M R') : Prop := ∀ ⦃s : MSt⦄ ⦃o : O R⦄, Rn p s o → m s = o.map φ
section
variable {R' : Type} {φ : R → R'}
theorem Sd.bad {m : M R'} : Sd φ .bad m := fun _ _ t => nomatch t
theorem Sd.exc {m : M R'} (h : ∀ s, m s = .exc) : Sd φ .exc m := fun s _ t => by cases t; exact h s
theorem Sd.ret {r : R} {m : M R'} (h : ∀ s, m s = .ok (φ r) s) : Sd φ (.ret r) m := fun s _ t => by cases t; exact h s
theorem Sd.v {m : M MV} {k : MV → Pg R} {K : MV → M R'} (h : ∀ a, Sd φ (k a) (K a)) : Sd φ (.v m k) (M.bind m K) := fun s o t => by
 cases t with
 | v h1 t => exact (bind_ok h1).trans (h _ t)
 | exv _ h1 => exact bind_exc h1
theorem Sd.x {m : M (Fl × LEnv)} {k : Fl → EL → Pg R} {K : Fl × LEnv → M R'} (h : ∀ fl E, Sd φ (k fl E) (K (fl, lk E))) : Sd φ (.x m k) (M.bind m K) := fun s o t => by
 cases t with
 | x h1 t => exact (bind_ok h1).trans (h _ _ t)
theorem Sd.of {p : Pg R} {m m' : M R'} (h : Sd φ p m) (e : ∀ s, m' s = m s) : Sd φ p m' := fun s _ t => (e s).trans (h t)
end
noncomputable def po {α : Type} (o : Option α) (k : α → Pg R) : Pg R := match o with | some a => k a | none => .bad
noncomputable def trP (v : MV) (k : Bool → Pg R) : Pg R := po (truth? v) k
abbrev VT (R : Type) := ((MV → Pg R) → Pg R) × ((Bool → Pg R) → Pg R)
noncomputable def both (f : (MV → Pg R) → Pg R) : VT R := (f, fun k => f fun v => trP v k)
noncomputable def pif {α : Type} (b : Bool) (x y : α) : α := match b with | true => x | false => y
noncomputable def addP (a b : MV) (k : MV → Pg R) : Pg R := match a.int?, b.int? with
 | some x, some y => k (.d (.int (x + y)))
 | _, _ => .v (addS a b) k
noncomputable def binP (op : Operator) (a b : MV) (k : MV → Pg R) : Pg R := match op with
 | .Add => addP a b k
 | op => .v (binop op a b) k
noncomputable def mB (m : M Bool) : M MV := M.bind m fun b => M.pure (.d (.bool b))
noncomputable def mU (m : M Unit) : M MV := M.bind m fun _ => M.pure (.d .none)
noncomputable def encM : Meth → MV
 | .fn f _ => .d (.glob f)
 | _ => .d .none
noncomputable def decM (n : Nat) (v : MV) (k : Meth → Pg R) : Pg R := match v with
 | .d (.glob f) => k (.fn f (.ref n))
 | _ => k (.app n)
noncomputable def mM (m : M Meth) : M MV := M.bind m fun m => M.pure (encM m)
noncomputable def bP (m : M Bool) (k : Bool → Pg R) : Pg R := .v (mB m) fun v => po (bool? v) k
noncomputable def cmpP (op : CmpOp) (a b : MV) (k : Bool → Pg R) : Pg R := match op with
 | .Is => po (cIs a b) k
 | .IsNot => po (cIs a b) fun t => k (!t)
 | op => bP (cmpM op a b) k
noncomputable def fldP (T : Tab) (attr : Str) (o : MV) (k : MV → Pg R) : Pg R := match o with
 | .d x => po (getField T (.d x) attr s0) k
 | o => .v (optM (getField T o attr)) k
noncomputable def mthP (T : Tab) (name : Str) (o : MV) (k : Meth → Pg R) : Pg R := match o with
 | .d x => po (methOf T (.d x) name s0) k
 | .ref n => .v (mM (optM (methOf T (.ref n) name))) fun v => decM n v k
 | .tup _ => .bad
noncomputable def rmP (c : Cfg) (m : Meth) (vs : List MV) (k : MV → Pg R) : Pg R := match m with
 | .fn f o => .v (c.call f (o :: vs)) k
 | .str m l => .v (strMeth m l vs) k
 | .app n => .v (on1 (appM n) vs) k
noncomputable def cgP (c : Cfg) (a : Nat) (vs : List MV) (k : MV → Pg R) : Pg R := match c.T.fn a with
 | some _ => .v (c.call a vs) k
 | none => .v (callGlob c a vs) k
noncomputable def cvP (c : Cfg) (fv : MV) (vs : List MV) (k : MV → Pg R) : Pg R := match fv with
 | .d (.glob a) => cgP c a vs k
 | .d (.bi n) => .v (callBi c.T n vs) k
 | .d (.typ n) => .v (callTyp n vs) k
 | _ => .bad
noncomputable def dOf : MV → Option D
 | .d x => some x
 | _ => none
noncomputable def cE (cs : Scope) (E : EL) (x : Str) (v : MV) : EL := (x, v) :: E.filter fun p => cs.names.lookup p.1 == some .free
noncomputable def cpM (c : Cfg) (e : Expr) (cs : Scope) (E : EL) (x : Str) (iv : MV) : M MV := M.bind (frzM iv) fun l => M.bind (noExc (gather (fun v => (evt c e cs (lk (cE cs E x v))).1) (l.map .d))) mkList
mutual
noncomputable def evtP (c : Cfg) : Expr → Scope → EL → VT R
 | .Constant k _ _, _, _ => both fun g => po (cval k) fun d => g (.d d)
 | .Name id _, sc, E => both (po (evName c.T sc id (lk E)))
 | .BoolOp op vs _, sc, E => (evBoolP c op vs sc E, tstsP c op vs sc E)
 | .BinOp l op r _, sc, E => both fun g => (evtP c l sc E).1 fun a => (evtP c r sc E).1 fun b => binP op a b g
 | .UnaryOp op x _, sc, E => match op with
  | .Not => (fun g => (evtP c x sc E).1 fun v => trP v fun t => g (.d (.bool !t)), fun g => (evtP c x sc E).2 fun t => g (!t))
  | .USub => both fun g => (evtP c x sc E).1 fun v => po (v.int?) fun i => g (.d (.int (-i)))
  | _ => (fun _ => .bad, fun _ => .bad)
 | .IfExp t a b _, sc, E => (fun g => (evtP c t sc E).2 fun x => pif x ((evtP c a sc E).1 g) ((evtP c b sc E).1 g), fun _ => .bad)
 | .List es _, sc, E => both fun g => pif (plainArgs es) (evsP c es sc E fun vs => .v (mkList vs) g) .bad
 | .Tuple es _ _, sc, E => both fun g => pif (plainArgs es) (evsP c es sc E fun vs => g (mkTup vs)) .bad
 | .Compare l ops rs _, sc, E => let t := fun g => match ops with
   | [op] => (match rs with
    | [r] => (evtP c l sc E).1 fun a => (evtP c r sc E).1 fun b => cmpP op a b g
    | _ => .bad)
   | _ => .bad
  (fun g => t fun b => g (.d (.bool b)), t)
 | .Attribute v attr _, sc, E => both fun g => pif (plainBase v) ((evtP c v sc E).1 fun o => fldP c.T attr o g) .bad
 | .Subscript v i _, sc, E => both fun g => (evtP c v sc E).1 (match i with
   | .Slice lo hi st _ => (match st with
    | none => fun o => evOptP c lo sc E fun l => evOptP c hi sc E fun h => .v (getSlice o l h) g
    | _ => fun _ => .bad)
   | i => fun o => (evtP c i sc E).1 fun k => .v (getItem o k) g)
 | .Call f args kws pos, sc, E => both fun g => match kws with
   | [] => pif (plainArgs args) (match f with
    | .Attribute o name apos => pif (plainBase o && decide (apos.endLine = pos.line)) ((evtP c o sc E).1 fun ov => mthP c.T name ov fun m => evsP c args sc E fun vs => rmP c m vs g) .bad
    | f => (evtP c f sc E).1 fun fv => evsP c args sc E fun vs => cvP c fv vs g) .bad
   | _ => .bad
 | .ListComp e gs cs _, sc, E => both fun g => match gs with
   | [⟨t, it, ifs, a⟩] => po (nameOf t) fun x => pif (ifs.isEmpty && decide (a = 0) && compOk sc cs x) ((evtP c it sc E).1 fun iv => .v (cpM c e cs E x iv) g) .bad
   | _ => .bad
 | _, _, _ => (fun _ => .bad, fun _ => .bad)
noncomputable def evsP (c : Cfg) : List Expr → Scope → EL → (List MV → Pg R) → Pg R
 | [], _, _, g => g []
 | e :: r, sc, E, g => (evtP c e sc E).1 fun v => evsP c r sc E fun vs => g (v :: vs)
noncomputable def evOptP (c : Cfg) : Option Expr → Scope → EL → (Option D → Pg R) → Pg R
 | none, _, _, g => g none
 | some e, sc, E, g => (evtP c e sc E).1 fun v => po (dOf v) fun x => g (some x)
noncomputable def evBoolP (c : Cfg) (op : BoolOp) : List Expr → Scope → EL → (MV → Pg R) → Pg R
 | [], _, _, _ => .bad
 | x :: r, sc, E, g => pif r.isEmpty ((evtP c x sc E).1 g) ((evtP c x sc E).1 fun v => trP v fun t => pif (stopAt op t) (g v) (evBoolP c op r sc E g))
noncomputable def tstsP (c : Cfg) (op : BoolOp) : List Expr → Scope → EL → (Bool → Pg R) → Pg R
 | [], _, _, g => g (stopAt op false)
 | x :: r, sc, E, g => (evtP c x sc E).2 fun t => pif (stopAt op t) (g t) (tstsP c op r sc E g)
end
noncomputable def bindE (sc : Scope) : List Expr → List MV → EL → Option EL
 | [], vs, E => if vs.isEmpty then some E else none
 | t :: r, vs, E => match nameOf t with
  | some x => (match vs with
   | v :: vs => if isLocal sc x then bindE sc r vs ((x, v) :: E) else none
   | [] => none)
  | none => none
noncomputable def itO : MV → Option (List MV)
 | .d (.tup l) => some (l.map .d)
 | .d (.lst l) => some (l.map .d)
 | .tup l => some l
 | _ => none
noncomputable def asP (c : Cfg) (sc : Scope) (t : Expr) (v : MV) (E : EL) (k : EL → Pg R) : Pg R := match t with
 | .Name x _ => pif (isLocal sc x) (k ((x, v) :: E)) .bad
 | .Attribute o attr _ => (evtP c o sc E).1 fun ov => .v (mU (setAttr c.T ov attr v)) fun _ => k E
 | .Subscript o i _ => (evtP c o sc E).1 fun ov => (evtP c i sc E).1 fun iv => .v (mU (setItem ov iv v)) fun _ => k E
 | .Tuple ts _ _ => po (itO v) fun vs => po (bindE sc ts vs E) k
 | _ => .bad
noncomputable def forM (c : Cfg) (sc : Scope) (rg : Bool) (t : Expr) (b : List Stmt) (E : EL) (v : MV) : M (Fl × LEnv) := M.bind (if rg then rngM v else iterOf v) fun l => floop (bindFor sc t) (fun le => exs c sc b le) l (lk E)
noncomputable def iterP (c : Cfg) (sc : Scope) (it : Expr) (E : EL) (k : Bool → MV → Pg R) : Pg R := match rangeOf it with
 | some p => pif (isRange c sc (lk E) p.1) ((evtP c p.2 sc E).1 (k true)) .bad
 | none => (evtP c it sc E).1 (k false)
noncomputable def goP (fl : Fl) (E : EL) (k : EL → Pg R) (k2 : Fl → EL → Pg R) : Pg R := match fl with
 | .next => k E
 | .ret v => k2 (.ret v) E
mutual
noncomputable def exP (c : Cfg) (sc : Scope) : Stmt → EL → (Fl → EL → Pg R) → Pg R
 | .Expr v _, E, g => pif (isComp v) .bad ((evtP c v sc E).1 fun _ => g .next E)
 | .Pass _, E, g => g .next E
 | .Return o _, E, g => match o with
  | none => g (.ret (.d .none)) E
  | some v => (evtP c v sc E).1 fun x => g (.ret x) E
 | .Assign ts v _, E, g => match one? ts with
  | some t => pif (swapOk t v) ((evtP c v sc E).1 fun x => asP c sc t x E fun E' => g .next E') .bad
  | none => .bad
 | .If t a b _, E, g => (evtP c t sc E).2 fun x => pif x (exsP c sc a E g) (exsP c sc b E g)
 | .While t b e p, E, g => .x (ex c sc (.While t b e p) (lk E)) g
 | .For t it b e _, E, g => pif e.isEmpty (iterP c sc it E fun rg v => .x (forM c sc rg t b E v) g) .bad
 | .Try b hs e f p, E, g => .x (ex c sc (.Try b hs e f p) (lk E)) g
 | .Raise o k _, E, g => pif k.isNone (po (raiseOf o) fun p => po (evName c.T sc p.1 (lk E)) fun fv => evsP c p.2 sc E fun _ => pif (isPe c (some fv)) .exc .bad) .bad
 | _, _, _ => .bad
noncomputable def exsP (c : Cfg) (sc : Scope) : List Stmt → EL → (Fl → EL → Pg R) → Pg R
 | [], E, g => g .next E
 | st :: r, E, g => exP c sc st E fun fl E' => goP fl E' (fun E' => exsP c sc r E' g) g
end
end
end
section
open PySem
section
variable {R R' : Type} {φ : R → R'} {α β : Type} {c : Cfg} {sc : Scope}
def SdG (φ : R → R') {α : Type} (f : (α → Pg R) → Pg R) (m : M α) : Prop := ∀ ⦃k : α → Pg R⦄ ⦃K : α → M R'⦄, (∀ a, Sd φ (k a) (K a)) → Sd φ (f k) (M.bind m K)
def SdX (φ : R → R') (f : (Fl → EL → Pg R) → Pg R) (m : M (Fl × LEnv)) : Prop := ∀ ⦃g : Fl → EL → Pg R⦄ ⦃K : Fl × LEnv → M R'⦄, (∀ fl E, Sd φ (g fl E) (K (fl, lk E))) → Sd φ (f g) (M.bind m K)
theorem SdG.bind {f : (α → Pg R) → Pg R} {m : M α} {g : α → (β → Pg R) → Pg R} {n : α → M β} (h : SdG φ f m) (h2 : ∀ a, SdG φ (g a) (n a)) : SdG φ (fun k => f fun a => g a k) (M.bind m n) := fun _ _ hk => bind_assoc m n _ ▸ h fun a => h2 a hk
theorem SdX.bind {f : (α → Pg R) → Pg R} {m : M α} {g : α → (Fl → EL → Pg R) → Pg R} {n : α → M (Fl × LEnv)} (h : SdG φ f m) (h2 : ∀ a, SdX φ (g a) (n a)) : SdX φ (fun k => f fun a => g a k) (M.bind m n) := fun _ _ hk => bind_assoc m n _ ▸ h fun a => h2 a hk
theorem SdG.pure (a : α) : SdG φ (fun k => k a) (M.pure a) := fun _ _ hk => hk a
theorem SdX.pure (fl : Fl) (E : EL) : SdX φ (fun g => g fl E) (M.pure (fl, lk E)) := fun _ _ hk => hk fl E
theorem SdG.bad {m : M α} : SdG φ (fun _ => .bad) m := fun _ _ _ => Sd.bad
theorem SdX.bad {m : M (Fl × LEnv)} : SdX φ (fun _ => .bad) m := fun _ _ _ => Sd.bad
theorem SdG.po (o : Option α) : SdG φ (po o) (M.opt o) := fun _ _ hk => by
 cases o with
 | none => exact Sd.bad
 | some a => exact hk a
theorem SdG.op (m : M MV) : SdG φ (Pg.v m) m := fun _ _ hk => Sd.v hk
theorem SdX.op (m : M (Fl × LEnv)) : SdX φ (Pg.x m) m := fun _ _ hk => Sd.x hk
theorem SdG.map {f : (α → Pg R) → Pg R} {m : M α} (h : SdG φ f m) (q : α → β) : SdG φ (fun k => f fun a => k (q a)) (M.bind m fun a => M.pure (q a)) := h.bind fun a => .pure (q a)
theorem SdG.pif {p : Bool} {P : Prop} [Decidable P] {f : (α → Pg R) → Pg R} {m : M α} (e : p = true ↔ P) (h : P → SdG φ f m) : SdG φ (fun k => pif p (f k) .bad) (if P then m else M.bad) := fun k K hk => by
 cases p with
 | false => exact Sd.bad
 | true => rw [if_pos (e.mp rfl)]; exact h (e.mp rfl) hk
theorem SdX.pif {p : Bool} {P : Prop} [Decidable P] {f : (Fl → EL → Pg R) → Pg R} {m : M (Fl × LEnv)} (e : p = true ↔ P) (h : P → SdX φ f m) : SdX φ (fun k => pif p (f k) .bad) (if P then m else M.bad) := fun k K hk => by
 cases p with
 | false => exact Sd.bad
 | true => rw [if_pos (e.mp rfl)]; exact h (e.mp rfl) hk
theorem SdG.both {f : (MV → Pg R) → Pg R} {m : M MV} (h : SdG φ f m) : SdG φ (both f).1 m ∧ SdG φ (both f).2 (M.bind m truth) := ⟨h, h.bind fun v => .po (truth? v)⟩
theorem SdG.bP (m : M Bool) : SdG φ (bP m) m := fun k K hk => (bind_assoc m (fun b => M.pure (.d (.bool b))) fun v => M.bind (M.opt (bool? v)) K) ▸ Sd.v fun v => SdG.po (bool? v) hk
theorem SdG.add (a b : MV) : SdG φ (addP a b) (addV a b) := by
 unfold addP addV
 cases a.int? with
 | none => exact .op _
 | some x => cases b.int? with
  | none => exact .op _
  | some y => exact .pure _
theorem SdG.bin (op : Operator) (a b : MV) : SdG φ (binP op a b) (binop op a b) := by cases op <;> first | exact .add a b | exact .op _
theorem optM_const {f : MSt → Option α} (h : ∀ s, f s = f s0) : optM f = M.opt (f s0) := funext fun s => by unfold optM M.opt; rw [h s]
theorem cmpM_const {op : CmpOp} {a b : MV} {o : Option Bool} (h : ∀ s, Mine.cmp op a b s = o) : cmpM op a b = M.opt o := funext fun s => by unfold cmpM M.opt; rw [h s]; cases o <;> rfl
theorem SdG.cmp (op : CmpOp) (a b : MV) : SdG φ (cmpP op a b) (cmpM op a b) := by
 cases op with
 | Is => exact (cmpM_const (op := .Is) fun _ => rfl) ▸ SdG.po (cIs a b)
 | IsNot =>
  have e : cmpM .IsNot a b = M.bind (M.opt (cIs a b)) fun t => M.pure (!t) := (cmpM_const (op := .IsNot) fun _ => rfl).trans (by cases cIs a b <;> rfl)
  exact e ▸ SdG.map (.po (cIs a b)) _
 | _ => exact .bP _
theorem SdG.fld (T : Tab) (a : Str) (o : MV) : SdG φ (fldP T a o) (optM (getField T o a)) := by
 cases o with
 | d x => exact optM_const (f := getField T (.d x) a) (fun _ => by cases x <;> rfl) ▸ SdG.po (getField T (.d x) a s0)
 | _ => exact .op _
theorem meth_ref {T : Tab} {n : Nat} {name : Str} {s : MSt} {m : Meth} (h : methOf T (.ref n) name s = some m) : ∃ f, m = .fn f (.ref n) ∨ m = .app n := by
 have e : methOf T (.ref n) name s = match instOf (.ref n) s with | some p => (T.cls p.1).bind fun ci => ownMeth ci p.2 (.ref n) name | none => if name = so "append" then appOf (.ref n) s else none := rfl
 rw [e] at h
 cases hi : instOf (.ref n) s with
 | some p =>
  rw [hi] at h
  refine (bes h).elim fun ci z => ?_
  have z2 := z.2
  unfold ownMeth at z2
  by_cases q : (p.2.lookup name).isSome = true
  ·exact nos ((if_pos q).symm.trans z2)
  ·exact (mes ((if_neg q).symm.trans z2)).elim fun f y => ⟨f, .inl y.2.symm⟩
 | none =>
  rw [hi] at h
  by_cases q : name = so "append"
  ·have h : appOf (.ref n) s = some m := (if_pos q).symm.trans h
   unfold appOf at h
   dsimp only at h
   cases ho : s.objs n with
   | list l => rw [ho] at h; cases h; exact ⟨0, .inr rfl⟩
   | _ => rw [ho] at h; exact nos h
  ·exact nos ((if_neg q).symm.trans h)
theorem SdG.mth (T : Tab) (a : Str) (o : MV) : SdG φ (mthP T a o) (optM (methOf T o a)) := by
 cases o with
 | d x => exact optM_const (f := methOf T (.d x) a) (fun _ => by cases x <;> rfl) ▸ SdG.po (methOf T (.d x) a s0)
 | tup l => exact .bad
 | ref n =>
  intro k K hk
  refine Sd.of (Sd.v (K := fun v => match v with | .d (.glob f) => K (.fn f (.ref n)) | _ => K (.app n)) fun v => ?_) fun s => ?_
  ·unfold decM
   split
   ·exact hk _
   ·first
    | exact hk _
    |rename_i h
     split
     ·exact absurd rfl (h _)
     ·exact hk _
  ·unfold mM M.bind optM
   cases h : methOf T (.ref n) a s with
   | none => rfl
   | some m => exact (meth_ref h).elim fun f z => by cases z with | inl z => (subst z; rfl) | inr z => (subst z; rfl)
theorem SdG.rm (m : Meth) (vs : List MV) : SdG φ (rmP c m vs) (runMeth c m vs) := by cases m <;> exact .op _
theorem SdG.cv (fv : MV) (vs : List MV) : SdG φ (cvP c fv vs) (callVal c fv vs) := by
 cases fv with
 | d x =>
  cases x with
  | glob a =>
   show SdG φ (cgP c a vs) (callGlob c a vs)
   unfold cgP
   cases h : c.T.fn a with
   | none => exact .op _
   | some mf =>
    have e : callGlob c a vs = c.call a vs := by unfold callGlob; rw [h]
    exact e ▸ .op _
  | bi n => exact .op _
  | typ n => exact .op _
  | _ => exact .bad
 | _ => exact .bad
theorem lk_set (x : Str) (v : MV) (E : EL) : lk ((x, v) :: E) = (lk E).set x v := funext fun y => by
 show List.lookup y ((x, v) :: E) = if y = x then some v else List.lookup y E
 rw [List.lookup_cons]
 by_cases q : y = x
 ·rw [if_pos q, beq_iff_eq.mpr q]
 ·rw [if_neg q, beq_false_of_ne q]
theorem lk_zip : ∀ (xs : List Str) (vs : List MV), zipEnv xs vs = lk (xs.zip vs)
 | [], _ => rfl
 | _ :: _, [] => rfl
 | x :: xs, v :: vs => funext fun y => by
  show (if y = x then some v else zipEnv xs vs y) = lk ((x, v) :: xs.zip vs) y
  rw [lk_set, lk_zip xs vs]; rfl
theorem lk_filter {p : Str → Bool} {y : Str} : ∀ E : EL, (E.filter fun q => p q.1).lookup y = if p y = true then E.lookup y else none
 | [] => by cases p y <;> rfl
 | (z, w) :: E => by
  have ih := lk_filter (p := p) (y := y) E
  by_cases q : y = z
  ·subst q
   cases h : p y with
   | true => rw [List.filter_cons_of_pos (by exact h), List.lookup_cons, List.lookup_cons, beq_self_eq_true, if_pos rfl]
   | false => rw [List.filter_cons_of_neg (by rw [h]; exact nofun), ih, h]; rfl
  ·have e : ((z, w) :: E).lookup y = E.lookup y := by rw [List.lookup_cons, beq_false_of_ne q]
   rw [e, ← ih]
   cases h : p z with
   | true => rw [List.filter_cons_of_pos (by exact h), List.lookup_cons, beq_false_of_ne q]
   | false => rw [List.filter_cons_of_neg (by rw [h]; exact nofun)]
theorem lk_comp (cs : Scope) (E : EL) (x : Str) (v : MV) : lk (cE cs E x v) = compEnv cs (lk E) x v := funext fun y => by
 show List.lookup y ((x, v) :: E.filter fun p => cs.names.lookup p.1 == some .free) = if y = x then some v else if cs.names.lookup y = some .free then List.lookup y E else none
 rw [List.lookup_cons, lk_filter (p := fun z => cs.names.lookup z == some .free)]
 by_cases q : y = x
 ·rw [if_pos q, beq_iff_eq.mpr q]
 ·rw [if_neg q, beq_false_of_ne q]
  by_cases h : cs.names.lookup y = some .free
  ·exact (if_pos (beq_iff_eq.mpr h)).trans (if_pos h).symm
  ·exact (if_neg fun q => h (beq_iff_eq.mp q)).trans (if_neg h).symm
theorem bindE_eq : ∀ (ts : List Expr) (vs : List MV) (E : EL), bindNames sc ts vs (lk E) = (bindE sc ts vs E).map lk
 | [], vs, E => by unfold bindNames bindE; cases vs.isEmpty <;> rfl
 | t :: r, vs, E => by
  unfold bindNames bindE
  cases nameOf t with
  | none => rfl
  | some x => cases vs with
   | nil => rfl
   | cons v vs =>
    dsimp only
    cases isLocal sc x with
    | false => rfl
    | true => exact lk_set x v E ▸ bindE_eq r vs ((x, v) :: E)
end
section
variable {R R' : Type} {φ : R → R'} {α β : Type} {c : Cfg} {sc : Scope}
def Ev2 (φ : R → R') (c : Cfg) (e : Expr) : Prop := ∀ (sc : Scope) (E : EL), SdG φ (evtP c e sc E).1 (ev c e sc (lk E))
def Ts2 (φ : R → R') (c : Cfg) (e : Expr) : Prop := ∀ (sc : Scope) (E : EL), SdG φ (evtP c e sc E).2 (tst c e sc (lk E))
theorem E2.both {e : Expr} {f : Scope → EL → (MV → Pg R) → Pg R} (h : ∀ sc E, SdG φ (f sc E) (ev c e sc (lk E))) (h1 : ∀ sc E, evtP c e sc E = both (f sc E)) (h2 : ∀ sc le, tst c e sc le = M.bind (ev c e sc le) truth) : Ev2 φ c e ∧ Ts2 φ c e :=
 ⟨fun sc E => h1 sc E ▸ (h sc E), fun sc E => h1 sc E ▸ h2 sc (lk E) ▸ (h sc E).both.2⟩
theorem E2.bad {e : Expr} (h1 : ∀ sc E, evtP (R := R) c e sc E = (fun _ => .bad, fun _ => .bad)) : Ev2 φ c e ∧ Ts2 φ c e := ⟨fun sc E => h1 sc E ▸ SdG.bad, fun sc E => h1 sc E ▸ SdG.bad⟩
theorem evs2 {E : EL} : ∀ {es : List Expr}, (∀ e ∈ es, Ev2 φ c e) → SdG φ (evsP c es sc E) (evs c es sc (lk E))
 | [], _ => .pure []
 | _ :: _, h => .bind (h _ (.head _) sc E) fun v => .map (evs2 fun e he => h e (.tail _ he)) (v :: ·)
theorem SdG.alt {p : Bool} {f1 f2 : (α → Pg R) → Pg R} {m1 m2 : M α} (h1 : SdG φ f1 m1) (h2 : SdG φ f2 m2) : SdG φ (fun g => Mine.pif p (f1 g) (f2 g)) (if p = true then m1 else m2) := by
 cases p with
 | false => exact h2
 | true => exact h1
theorem tsts2 {op : BoolOp} {E : EL} : ∀ {es : List Expr}, (∀ e ∈ es, Ts2 φ c e) → SdG φ (tstsP c op es sc E) (tsts c op es sc (lk E))
 | [], _ => .pure _
 | x :: r, h => SdG.bind (g := fun t g => pif (stopAt op t) (g t) (tstsP c op r sc E g)) (n := fun t => if stopAt op t = true then M.pure t else tsts c op r sc (lk E)) (h _ (.head _) sc E) fun t => .alt (.pure t) (tsts2 fun e he => h e (.tail _ he))
theorem evBool2 {op : BoolOp} {E : EL} : ∀ {es : List Expr}, (∀ e ∈ es, Ev2 φ c e) → SdG φ (evBoolP c op es sc E) (evBool c op es sc (lk E))
 | [], _ => .bad
 | [x], h => h x (.head _) sc E
 | x :: y :: r, h => SdG.bind (g := fun v g => trP v fun t => pif (stopAt op t) (g v) (evBoolP c op (y :: r) sc E g)) (n := fun v => M.bind (truth v) fun t => if stopAt op t = true then M.pure v else evBool c op (y :: r) sc (lk E)) (h x (.head _) sc E) fun v => SdG.bind (g := fun t g => pif (stopAt op t) (g v) (evBoolP c op (y :: r) sc E g)) (n := fun t => if stopAt op t = true then M.pure v else evBool c op (y :: r) sc (lk E)) (.po (truth? v)) fun t => .alt (.pure v) (evBool2 fun e he => h e (.tail _ he))
theorem evOpt2 {E : EL} {o : Option Expr} (h : ∀ e, o = some e → Ev2 φ c e) : SdG φ (evOptP c o sc E) (evOpt c o sc (lk E)) := by
 cases o with
 | none => exact .pure none
 | some e =>
  refine SdG.bind (h e rfl sc E) fun v => ?_
  cases v with
  | d x => exact .pure (some x)
  | _ => exact .bad
theorem tt {p : Bool} : p = true ↔ p = true := Iff.rfl
theorem cmp2 {l r : Expr} {op : CmpOp} (hl : Ev2 φ c l) (hr : Ev2 φ c r) (E : EL) : SdG φ (fun g => (evtP c l sc E).1 fun a => (evtP c r sc E).1 fun b => cmpP op a b g) (M.bind (ev c l sc (lk E)) fun a => M.bind (ev c r sc (lk E)) fun b => cmpM op a b) := .bind (hl sc E) fun a => .bind (hr sc E) fun b => .cmp op a b
theorem call2 {f : Expr} {args : List Expr} {pos : Pos} (hf : Ev2 φ c f) (hA : ∀ e ∈ args, Ev2 φ c e) (h1 : ∀ sc E g, (evtP (R := R) c (.Call f args [] pos) sc E).1 g = pif (plainArgs args) ((evtP c f sc E).1 fun fv => evsP c args sc E fun vs => cvP c fv vs g) .bad)
  (h2 : ∀ sc le, ev c (.Call f args [] pos) sc le = if plainArgs args = true then M.bind (ev c f sc le) fun fv => M.bind (evs c args sc le) fun vs => callVal c fv vs else M.bad) (sc : Scope) (E : EL) : SdG φ (fun g => (evtP c (.Call f args [] pos) sc E).1 g) (ev c (.Call f args [] pos) sc (lk E)) := by
 rw [h2, funext (h1 sc E)]
 exact .pif tt fun _ => .bind (hf sc E) fun fv => .bind (evs2 hA) fun vs => .cv fv vs
theorem sub2 {v i : Expr} {pos : Pos} (hv : Ev2 φ c v) (hi : Ev2 φ c i) (h1 : ∀ sc E g, (evtP (R := R) c (.Subscript v i pos) sc E).1 g = (evtP c v sc E).1 fun o => (evtP c i sc E).1 fun k => .v (getItem o k) g)
  (h2 : ∀ sc le, ev c (.Subscript v i pos) sc le = M.bind (ev c v sc le) fun o => M.bind (ev c i sc le) fun k => getItem o k) (sc : Scope) (E : EL) : SdG φ (fun g => (evtP c (.Subscript v i pos) sc E).1 g) (ev c (.Subscript v i pos) sc (lk E)) := by
 rw [h2, funext (h1 sc E)]
 exact .bind (hv sc E) fun o => .bind (hi sc E) fun k => .op (getItem o k)
theorem meth2 {o : Expr} {nm : Str} {ap : Pos} {args : List Expr} {pos : Pos} (ho : Ev2 φ c o) (hA : ∀ e ∈ args, Ev2 φ c e) (sc : Scope) (E : EL) : SdG φ (fun g => (evtP c (.Call (.Attribute o nm ap) args [] pos) sc E).1 g) (ev c (.Call (.Attribute o nm ap) args [] pos) sc (lk E)) :=
 SdG.pif (P := plainArgs args = true) tt fun _ => SdG.pif (P := plainBase o = true ∧ ap.endLine = pos.line) ((Bool.and_eq_true _ _).to_iff.trans (and_congr Iff.rfl decide_eq_true_iff)) fun _ => .bind (ho sc E) fun ov => .bind (.mth c.T nm ov) fun m => .bind (evs2 hA) fun vs => .rm m vs
theorem comp2 {e it : Expr} {x : Str} {px : Pos} {ifs : List Expr} {a : Int} {cs : Scope} {pos : Pos} (hi : Ev2 φ c it) (sc : Scope) (E : EL) : SdG φ (fun g => (evtP c (.ListComp e [⟨.Name x px, it, ifs, a⟩] cs pos) sc E).1 g) (ev c (.ListComp e [⟨.Name x px, it, ifs, a⟩] cs pos) sc (lk E)) :=
 SdG.pif (P := ifs.isEmpty = true ∧ a = 0 ∧ compOk sc cs x = true) ((Bool.and_eq_true _ _).to_iff.trans ((and_congr ((Bool.and_eq_true _ _).to_iff.trans (and_congr Iff.rfl decide_eq_true_iff)) Iff.rfl).trans and_assoc)) fun _ => .bind (hi sc E) fun iv => by
  have e1 : (fun v => (evt c e cs (compEnv cs (lk E) x v)).1) = fun v => (evt c e cs (lk (cE cs E x v))).1 := funext fun v => by rw [lk_comp]
  rw [e1]
  exact .op (cpM c e cs E x iv)
end
section
variable {R R' : Type} {φ : R → R'} {α β : Type} {c : Cfg} {sc : Scope}
set_option smartUnfolding false in
theorem P_sub (v i : Expr) (p : Pos) (sc : Scope) (E : EL) : evtP (R := R) c (.Subscript v i p) sc E = both fun g => (evtP c (.Subscript v i p) sc E).1 g := rfl
set_option smartUnfolding false in
theorem P_call (f : Expr) (a : List Expr) (k : List Keyword) (p : Pos) (sc : Scope) (E : EL) : evtP (R := R) c (.Call f a k p) sc E = both fun g => (evtP c (.Call f a k p) sc E).1 g := rfl
set_option smartUnfolding false in
theorem P_comp (e : Expr) (gs : List Comprehension) (cs : Scope) (p : Pos) (sc : Scope) (E : EL) : evtP (R := R) c (.ListComp e gs cs p) sc E = both fun g => (evtP c (.ListComp e gs cs p) sc E).1 g := rfl
theorem szC2 (it t : Expr) (ifs : List Expr) (a : Int) : sizeOf it < sizeOf ([⟨t, it, ifs, a⟩] : List Comprehension) := by rw [List.cons.sizeOf_spec, Comprehension.mk.sizeOf_spec]; omega
theorem ev_sd : ∀ (k : Nat) (e : Expr), sizeOf e < k → Ev2 φ c e ∧ Ts2 φ c e
 | 0, _, h => absurd h (Nat.not_lt_zero _)
 | k + 1, e, h => by
  have ih := ev_sd k
  have all : ∀ es : List Expr, sizeOf es ≤ k → ∀ e ∈ es, Ev2 φ c e ∧ Ts2 φ c e := fun es hs e he => ih e (lll (List.sizeOf_lt_of_mem he) hs)
  cases e with
  | Constant v j p => exact E2.both (f := fun _ _ g => po (cval v) fun d => g (MV.d d)) (fun _ _ => by
   show SdG φ (fun g => po (cval v) fun d => g (MV.d d)) (M.opt ((cval v).map MV.d))
   cases cval v with
   | none => exact .bad
   | some d => exact .pure _) (fun _ _ => rfl) fun _ _ => rfl
  | Name id p => exact E2.both (f := fun sc E => po (evName c.T sc id (lk E))) (fun _ _ => .po _) (fun _ _ => rfl) fun _ _ => rfl
  | BoolOp op vs p =>
   have hs := all vs (nol (sz1 (Expr.BoolOp.sizeOf_spec op vs p ▸ h)).2)
   exact ⟨fun _ _ => evBool2 fun e he => (hs e he).1, fun _ _ => tsts2 fun e he => (hs e he).2⟩
  | BinOp l op r p =>
   have q := szl (Expr.BinOp.sizeOf_spec l op r p ▸ h)
   exact E2.both (f := fun sc E g => (evtP c l sc E).1 fun a => (evtP c r sc E).1 fun b => binP op a b g) (fun sc E => SdG.bind (g := fun a g => (evtP c r sc E).1 fun b => binP op a b g) ((ih l q.1).1 sc E) fun a => .bind ((ih r q.2).1 sc E) fun b => .bin op a b) (fun _ _ => rfl) fun _ _ => rfl
  | UnaryOp op x p =>
   have q := ih x (sz1 (Expr.UnaryOp.sizeOf_spec op x p ▸ h)).2
   cases op with
   | Not => exact ⟨fun sc E => SdG.bind (g := fun v g => trP v fun t => g (MV.d (.bool !t))) (n := fun v => M.bind (truth v) fun t => M.pure (MV.d (.bool !t))) (q.1 sc E) fun v => .map (.po (truth? v)) _, fun sc E => .map (q.2 sc E) (!·)⟩
   | USub => exact E2.both (f := fun sc E g => (evtP c x sc E).1 fun v => po v.int? fun i => g (MV.d (.int (-i)))) (fun sc E => SdG.bind (g := fun v g => po v.int? fun i => g (MV.d (.int (-i)))) (n := fun v => M.opt (v.int?.map fun i => MV.d (.int (-i)))) (q.1 sc E) fun v => by
    cases v.int? with
    | none => exact .bad
    | some d => exact .pure _) (fun _ _ => rfl) fun _ _ => rfl
   | _ => exact E2.bad fun _ _ => rfl
  | IfExp t a b p =>
   have q := sz2 (Expr.IfExp.sizeOf_spec t a b p ▸ h)
   exact ⟨fun sc E => SdG.bind (g := fun x g => pif x ((evtP c a sc E).1 g) ((evtP c b sc E).1 g)) ((ih t q.1).2 sc E) fun x => .alt ((ih a q.2.1).1 sc E) ((ih b q.2.2).1 sc E), fun _ _ => .bad⟩
  | List es p => exact E2.both (f := fun sc E g => pif (plainArgs es) (evsP c es sc E fun vs => .v (mkList vs) g) .bad) (fun sc E => SdG.pif (P := plainArgs es = true) tt fun _ => .bind (evs2 fun e he => (all es (nol (sz1 (b := sizeOf p) (c := 0) (Expr.List.sizeOf_spec es p ▸ h)).1) e he).1) fun vs => .op (mkList vs)) (fun _ _ => rfl) fun _ _ => rfl
  | Tuple es j p => exact E2.both (f := fun sc E g => pif (plainArgs es) (evsP c es sc E fun vs => g (mkTup vs)) .bad) (fun sc E => SdG.pif (P := plainArgs es = true) tt fun _ => .map (evs2 fun e he => (all es (nol (sz1 (Expr.Tuple.sizeOf_spec es j p ▸ h)).1) e he).1) mkTup) (fun _ _ => rfl) fun _ _ => rfl
  | Compare l ops rs p =>
   have q := szl (Expr.Compare.sizeOf_spec l ops rs p ▸ h)
   cases ops with
   | nil => exact E2.bad fun _ _ => rfl
   | cons op ops =>
    cases ops with
    | cons => exact E2.bad fun _ _ => rfl
    | nil =>
     cases rs with
     | nil => exact E2.bad fun _ _ => rfl
     | cons r rs =>
      cases rs with
      | cons => exact E2.bad fun _ _ => rfl
      | nil =>
       have qr : Ev2 φ c r := (all [r] (nol q.2) r (.head _)).1
       exact ⟨fun sc E => .map (cmp2 (ih l q.1).1 qr E) fun b => MV.d (.bool b), fun sc E => cmp2 (ih l q.1).1 qr E⟩
  | Attribute v a p => exact E2.both (f := fun sc E g => pif (plainBase v) ((evtP c v sc E).1 fun o => fldP c.T a o g) .bad) (fun sc E => SdG.pif (P := plainBase v = true) tt fun _ => .bind ((ih v (sz1 (Expr.Attribute.sizeOf_spec v a p ▸ h)).1).1 sc E) fun o => .fld c.T a o) (fun _ _ => rfl) fun _ _ => rfl
  | Subscript v i p =>
   have q := sz1 (Expr.Subscript.sizeOf_spec v i p ▸ h)
   have hv : Ev2 φ c v := (ih v q.1).1
   have hi : Ev2 φ c i := (ih i q.2).1
   refine E2.both ?_ (P_sub v i p) (tst_sub v i p)
   cases i with
   | Slice lo up st ps =>
    cases st with
    | none =>
     have z := sz2 (k := k - 1) (by rw [Nat.sub_add_cancel (nll (Nat.zero_le _) q.2)]; exact Expr.Slice.sizeOf_spec lo up none ps ▸ q.2)
     exact fun sc E => SdG.bind (g := fun o g => evOptP c lo sc E fun l => evOptP c up sc E fun h => .v (getSlice o l h) g) (n := fun o => M.bind (evOpt c lo sc (lk E)) fun l => M.bind (evOpt c up sc (lk E)) fun h => getSlice o l h) (hv sc E) fun o => .bind (evOpt2 fun e he => (ih e (szO z.1 he)).1) fun l => .bind (evOpt2 fun e he => (ih e (szO z.2.1 he)).1) fun h => .op _
    | some _ => exact fun sc E => SdG.bind (g := fun _ _ => .bad) (n := fun _ => M.bad) (hv sc E) fun _ => .bad
   | _ => exact sub2 hv hi (fun _ _ _ => rfl) fun _ _ => rfl
  | Call f args kws p =>
   have q := szl (c := sizeOf kws) (d := sizeOf p) (a := sizeOf f) (b := sizeOf args) (Expr.Call.sizeOf_spec f args kws p ▸ h)
   have hA : ∀ e ∈ args, Ev2 φ c e := fun e he => (all args (nol (sz2 (Expr.Call.sizeOf_spec f args kws p ▸ h)).2.1) e he).1
   refine E2.both ?_ (P_call f args kws p) (tst_call f args kws p)
   cases kws with
   | cons => exact fun _ _ => .bad
   | nil =>
    have hf : Ev2 φ c f := (ih f q.1).1
    cases f with
    | Attribute o nm ap => exact meth2 (ih o (Nat.lt_trans (szA o nm ap) q.1)).1 hA
    | _ => exact call2 hf hA (fun _ _ _ => rfl) fun _ _ => rfl
  | ListComp e gs cs p =>
   have q := sz2 (Expr.ListComp.sizeOf_spec e gs cs p ▸ h)
   refine E2.both ?_ (P_comp e gs cs p) (tst_comp e gs cs p)
   cases gs with
   | nil => exact fun _ _ => .bad
   | cons g0 gs =>
    cases g0 with | mk t it ifs a =>
    cases gs with
    | cons => exact fun _ _ => .bad
    | nil =>
     cases t with
     | Name x px => exact comp2 (ih it (Nat.lt_trans (szC2 it (.Name x px) ifs a) q.2.1)).1
     | _ => exact fun _ _ => .bad
  | _ => exact E2.bad fun _ _ => rfl
end
section
variable {R R' : Type} {φ : R → R'} {α β : Type} {c : Cfg} {sc : Scope}
theorem ev_p (e : Expr) : Ev2 φ c e := (ev_sd _ e (nls _)).1
theorem ts_p (e : Expr) : Ts2 φ c e := (ev_sd _ e (nls _)).2
def SdE (φ : R → R') (f : (EL → Pg R) → Pg R) (m : M LEnv) : Prop := ∀ ⦃k : EL → Pg R⦄ ⦃K : LEnv → M R'⦄, (∀ E, Sd φ (k E) (K (lk E))) → Sd φ (f k) (M.bind m K)
theorem SdE.bind {f : (α → Pg R) → Pg R} {m : M α} {g : α → (EL → Pg R) → Pg R} {n : α → M LEnv} (h : SdG φ f m) (h2 : ∀ a, SdE φ (g a) (n a)) : SdE φ (fun k => f fun a => g a k) (M.bind m n) := fun _ _ hk => bind_assoc m n _ ▸ h fun a => h2 a hk
theorem SdE.pure (E : EL) : SdE φ (fun k => k E) (M.pure (lk E)) := fun _ _ hk => hk E
theorem SdE.bad {m : M LEnv} : SdE φ (fun _ => .bad) m := fun _ _ _ => Sd.bad
theorem SdG.mU (m : M Unit) : SdG φ (fun k => Pg.v (Mine.mU m) fun _ => k ()) m := fun k K hk => (bind_assoc m (fun _ => M.pure (MV.d .none)) fun _ => K ()) ▸ Sd.v fun _ => hk ()
theorem SdG.itO (v : MV) : SdG φ (Mine.po (Mine.itO v)) (optM (items v)) := by
 cases v with
 | d x =>
  cases x with
  | tup l => exact .pure _
  | lst l => exact .pure _
  | _ => exact .bad
 | tup l => exact .pure _
 | ref => exact .bad
theorem as_tup {ts : List Expr} {E : EL} {vs : List MV} : SdE φ (po (bindE sc ts vs E)) (M.opt (bindNames sc ts vs (lk E))) := by
 rw [bindE_eq]
 cases bindE sc ts vs E with
 | none => exact .bad
 | some E => exact .pure E
theorem as_sd (t : Expr) (v : MV) (E : EL) : SdE φ (asP c sc t v E) (assignTo c sc t v (lk E)) := by
 cases t with
 | Name x p =>
  show SdE φ (fun k => pif (isLocal sc x) (k ((x, v) :: E)) .bad) (if isLocal sc x = true then M.pure ((lk E).set x v) else M.bad)
  rw [← lk_set]
  cases isLocal sc x with
  | false => exact .bad
  | true => exact .pure _
 | Attribute o a p => exact SdE.bind (g := fun ov k => Pg.v (mU (setAttr c.T ov a v)) fun _ => k E) (n := fun ov => M.bind (setAttr c.T ov a v) fun _ => M.pure (lk E)) (ev_p o sc E) fun ov => .bind (.mU _) fun _ => .pure E
 | Subscript o i p => exact SdE.bind (g := fun ov k => (evtP c i sc E).1 fun iv => Pg.v (mU (setItem ov iv v)) fun _ => k E) (n := fun ov => M.bind (ev c i sc (lk E)) fun iv => M.bind (setItem ov iv v) fun _ => M.pure (lk E)) (ev_p o sc E) fun ov => .bind (ev_p i sc E) fun iv => .bind (.mU _) fun _ => .pure E
 | Tuple ts j p => exact SdE.bind (g := fun vs k => po (bindE sc ts vs E) k) (n := fun vs => M.opt (bindNames sc ts vs (lk E))) (.itO v) fun vs => as_tup
 | _ => exact .bad
theorem SdX.ofE {f : (EL → Pg R) → Pg R} {m : M LEnv} (h : SdE φ f m) : SdX φ (fun g => f fun E => g .next E) (M.bind m fun le => M.pure (.next, le)) := fun _ _ hk => bind_assoc m _ _ ▸ h fun E => hk .next E
theorem SdX.alt {p : Bool} {f1 f2 : (Fl → EL → Pg R) → Pg R} {m1 m2 : M (Fl × LEnv)} (h1 : SdX φ f1 m1) (h2 : SdX φ f2 m2) : SdX φ (fun g => Mine.pif p (f1 g) (f2 g)) (if p = true then m1 else m2) := by
 cases p with
 | false => exact h2
 | true => exact h1
def Xs2 (φ : R → R') (c : Cfg) (b : List Stmt) : Prop := ∀ (sc : Scope) (E : EL), SdX φ (exsP c sc b E) (exs c sc b (lk E))
def X2 (φ : R → R') (c : Cfg) (st : Stmt) : Prop := ∀ (sc : Scope) (E : EL), SdX φ (exP c sc st E) (ex c sc st (lk E))
theorem xs_of : ∀ {b : List Stmt}, (∀ st ∈ b, X2 φ c st) → Xs2 φ c b
 | [], _ => fun _ E => .pure .next E
 | st :: r, h => fun sc E g K hk => by
  have e : exs c sc (st :: r) (lk E) = M.bind (ex c sc st (lk E)) fun p => goOn p (exs c sc r) := rfl
  rw [e, bind_assoc]
  refine h st (.head _) sc E (g := fun fl E' => goP fl E' (fun E' => exsP c sc r E' g) g) fun fl E' => ?_
  cases fl with
  | next => exact xs_of (fun st h1 => h st (.tail _ h1)) sc E' hk
  | ret v => exact hk (.ret v) E'
theorem x_for {t it : Expr} {b e : List Stmt} {p : Pos} : X2 φ c (.For t it b e p) := fun sc E => SdX.pif (P := e.isEmpty = true) tt fun _ => by
 unfold iterP iterM
 cases rangeOf it with
 | none => exact bind_assoc (ev c it sc (lk E)) _ _ ▸ SdX.bind (g := fun v g => .x (forM c sc false t b E v) g) (n := fun v => M.bind (iterOf v) fun l => floop (bindFor sc t) (fun le => exs c sc b le) l (lk E)) (ev_p it sc E) fun v => .op (forM c sc false t b E v)
 | some q =>
  dsimp only
  cases isRange c sc (lk E) q.1 with
  | false => exact .bad
  | true => exact bind_assoc (ev c q.2 sc (lk E)) _ _ ▸ SdX.bind (g := fun v g => .x (forM c sc true t b E v) g) (n := fun v => M.bind (rngM v) fun l => floop (bindFor sc t) (fun le => exs c sc b le) l (lk E)) (ev_p q.2 sc E) fun v => .op (forM c sc true t b E v)
theorem x_exc {b : Bool} : SdX φ (fun _ => pif b (Pg.exc (R := R)) .bad) (raiseM b) := fun _ _ _ => by
 cases b with
 | false => exact Sd.bad
 | true => exact Sd.exc fun _ => rfl
theorem x_raise {o k : Option Expr} {p : Pos} : X2 φ c (.Raise o k p) := fun sc E => by
 refine SdX.pif (P := k.isNone = true) (f := fun _ => po (raiseOf o) fun p => po (evName c.T sc p.1 (lk E)) fun fv => evsP c p.2 sc E fun _ => pif (isPe c (some fv)) .exc .bad) (m := match raiseOf o with | some p => M.bind (M.opt (evName c.T sc p.1 (lk E))) fun fv => M.bind (evs c p.2 sc (lk E)) fun _ => raiseM (isPe c (some fv)) | none => M.bad) tt fun _ => ?_
 cases raiseOf o with
 | none => exact .bad
 | some q => exact SdX.bind (g := fun fv _ => evsP c q.2 sc E fun _ => pif (isPe c (some fv)) .exc .bad) (n := fun fv => M.bind (evs c q.2 sc (lk E)) fun _ => raiseM (isPe c (some fv))) (.po _) fun fv => SdX.bind (g := fun _ _ => pif (isPe c (some fv)) .exc .bad) (n := fun _ => raiseM (isPe c (some fv))) (evs2 fun e _ => ev_p e) fun _ => x_exc
theorem x_expr {v : Expr} {p : Pos} : X2 φ c (.Expr v p) := fun sc E => by
 show SdX φ (fun g => pif (isComp v) .bad ((evtP c v sc E).1 fun _ => g .next E)) (if isComp v = true then M.bad else M.bind (ev c v sc (lk E)) fun _ => M.pure (.next, lk E))
 cases isComp v with
 | true => exact .bad
 | false => exact SdX.bind (g := fun _ g => g .next E) (n := fun _ => M.pure (.next, lk E)) (ev_p v sc E) fun _ => .pure .next E
theorem x_assign {ts : List Expr} {v : Expr} {p : Pos} : X2 φ c (.Assign ts v p) := fun sc E => by
 show SdX φ (fun g => match one? ts with | some t => pif (swapOk t v) ((evtP c v sc E).1 fun x => asP c sc t x E fun E' => g .next E') .bad | none => .bad) (match one? ts with | some t => if swapOk t v = true then M.bind (ev c v sc (lk E)) fun x => M.bind (assignTo c sc t x (lk E)) fun le' => M.pure (.next, le') else M.bad | none => M.bad)
 cases one? ts with
 | none => exact .bad
 | some t => exact SdX.pif (P := swapOk t v = true) tt fun _ => SdX.bind (g := fun x g => asP c sc t x E fun E' => g .next E') (n := fun x => M.bind (assignTo c sc t x (lk E)) fun le' => M.pure (.next, le')) (ev_p v sc E) fun x => .ofE (as_sd t x E)
theorem x_p : ∀ (k : Nat) (st : Stmt), sizeOf st < k → X2 φ c st
 | 0, _, h => absurd h (Nat.not_lt_zero _)
 | k + 1, st, h => by
  have sub : ∀ b : List Stmt, sizeOf b < sizeOf st → Xs2 φ c b := fun b hb => xs_of fun st' hm => x_p k st' (lll (Nat.lt_trans (List.sizeOf_lt_of_mem hm) hb) (Nat.le_of_lt_succ h))
  cases st with
  | Expr v p => exact x_expr
  | Pass p => exact fun _ E => .pure .next E
  | Return o p =>
   cases o with
   | none => exact fun _ E => .pure _ E
   | some v => exact fun sc E => SdX.bind (g := fun x g => g (.ret x) E) (n := fun x => M.pure (.ret x, lk E)) (ev_p v sc E) fun x => .pure _ E
  | Assign ts v p => exact x_assign
  | If t a b p => exact fun sc E => SdX.bind (g := fun x g => pif x (exsP c sc a E g) (exsP c sc b E g)) (n := fun x => if x = true then exs c sc a (lk E) else exs c sc b (lk E)) (ts_p t sc E) fun x => .alt (sub a (Nat.lt_of_lt_of_eq (stA _ _ _ _).1 (Stmt.If.sizeOf_spec ..).symm) sc E) (sub b (Nat.lt_of_lt_of_eq (stA _ _ _ _).2 (Stmt.If.sizeOf_spec ..).symm) sc E)
  | While t b e p => exact fun sc E => .op (ex c sc (.While t b e p) (lk E))
  | For t it b e p => exact x_for
  | Try b hs e f p => exact fun sc E => .op (ex c sc (.Try b hs e f p) (lk E))
  | Raise o k p => exact x_raise
  | _ => exact fun _ _ => .bad
theorem xs_p (b : List Stmt) : Xs2 φ c b := xs_of fun st _ => x_p _ st (nls _)
noncomputable def fnP (T : Tab) (K n a : Nat) (args : List MV) : Pg MV := match T.fn a with
 | some mf => pif (decide (mf.params.length = args.length)) (exsP ⟨T, K, callN T K n⟩ mf.scope mf.body (mf.params.zip args) fun fl _ => .ret (flV fl)) .bad
 | none => .bad
theorem fnP_sd {T : Tab} {K n a : Nat} {args : List MV} {s : MSt} {o : O MV} (h : Rn (fnP T K n a args) s o) : callN T K (n + 1) a args s = M.bind (fun _ => o) (retM (T.keep a) s.next) s := by
 have e : callN T K (n + 1) a args s = (match T.fn a with | none => .bad | some mf => if mf.params.length = args.length then M.bind (exs ⟨T, K, callN T K n⟩ mf.scope mf.body (zipEnv mf.params args)) (fun p => retM (T.keep a) s.next (flV p.1)) s else .bad) := rfl
 rw [e]
 unfold fnP at h
 cases hf : T.fn a with
 | none => rw [hf] at h; exact nomatch h
 | some mf =>
  rw [hf] at h
  dsimp only at h ⊢
  by_cases hl : mf.params.length = args.length
  ·rw [if_pos hl]
   rw [decide_eq_true hl] at h
   rw [lk_zip]
   have z := xs_p (φ := id) (c := ⟨T, K, callN T K n⟩) mf.body mf.scope (mf.params.zip args) (g := fun fl _ => .ret (flV fl)) (K := fun p => M.pure (flV p.1)) (fun fl E => Sd.ret fun _ => rfl) h
   have z2 : M.bind (exs ⟨T, K, callN T K n⟩ mf.scope mf.body (lk (mf.params.zip args))) (fun p => retM (T.keep a) s.next (flV p.1)) s = M.bind (M.bind (exs ⟨T, K, callN T K n⟩ mf.scope mf.body (lk (mf.params.zip args))) fun p => M.pure (flV p.1)) (retM (T.keep a) s.next) s := congrFun (bind_assoc (exs ⟨T, K, callN T K n⟩ mf.scope mf.body (lk (mf.params.zip args))) (fun p => M.pure (flV p.1)) (retM (T.keep a) s.next)).symm s
   rw [z2]
   unfold M.bind at z ⊢
   rw [z]
   cases o <;> rfl
  ·rw [decide_eq_false hl] at h; exact nomatch h
end
end
section
open PySem PySem.W PySem.Calls PyProof.Rows
section
noncomputable def CI.info (c : CI) : ClsInfo := ⟨c.init, c.froz, fun x => c.meths.lookup x, fun x => c.datas.contains x⟩
noncomputable def TB.tab (t : TB) : Tab := ⟨fun x => t.globs.lookup x, fun x => t.blts.lookup x, fun a => t.fns.lookup a, fun a => (t.clss.lookup a).map CI.info, fun a => t.keep.contains a, t.pe, fun k a => t.subs.lookup (k, a)⟩
theorem lookup_in {α β : Type} [BEq α] [LawfulBEq α] {t : α} {x : β} : ∀ {l : List (α × β)}, l.lookup t = some x → (t, x) ∈ l
 | [], e => nos e
 | (t', x') :: r, e => by
  rw [List.lookup_cons] at e
  cases hb : t == t' with
  | true => rw [hb] at e; cases e; rw [eq_of_beq hb]; exact .head _
  | false => rw [hb] at e; exact .tail _ (lookup_in e)
theorem tupO_eq {o : Obj} {its : Array Value} {k : Nat} (h : tupO o = true) (hd : o.data = .seq its k) : o = seqO "tuple" its k := by
 have h := (Bool.and_eq_true _ _).mp h
 have h2 := (Bool.and_eq_true _ _).mp h.2
 obtain ⟨c, d, e, s⟩ := o
 cases hd
 cases of_decide_eq_true h.1
 cases Option.isNone_iff_eq_none.mp h2.1
 cases Array.isEmpty_iff.mp h2.2
 rfl
def N0 (tab : List (Nat × List Nat)) : List Nat → Nat → Prop := fun l t => tab.lookup t = some l
section
variable {K : Frag} {tab : List (Nat × List Nat)} {S : Addr → Prop} {h : Heap}
theorem allO_sound {f : Value → Option D} {R : D → Value → Prop} (ih : ∀ v d, f v = some d → R d v) : ∀ (vs : List Value) (ds : List D), allO f vs = some ds → All2 R ds vs
 | [], ds, e => by cases e; exact .nil
 | v :: vs, ds, e => (bes e).elim fun d z => (mes z.2).elim fun ds' y => y.2 ▸ .cons (ih v d z.1) (allO_sound ih vs ds' y.1)
theorem valO_sound {g : Nat → Option D} (hg : ∀ a d, g a = some d → VR S h (N0 tab) d (.ref a)) (v : Value) (d : D) (e : valO tab g v = some d) : VR S h (N0 tab) d v := by
 cases v with
 | none => cases e; exact rfl
 | bool b => cases e; exact rfl
 | int i t => cases e; exact ⟨t, rfl⟩
 | str s t =>
  by_cases q : tab.lookup t = some s.cps.toList
  ·cases (if_pos q).symm.trans e; exact ⟨t, rfl, q⟩
  ·exact nos ((if_neg q).symm.trans e)
 | type n => cases e; exact rfl
 | builtin n => cases e; exact rfl
 | ref a => exact hg a d e
 | _ => exact nos e
theorem refD_sound (X : K.In h) : ∀ (k a : Nat) (d : D), refD K tab k a = some d → VR (fun _ => False) h (N0 tab) d (.ref a)
 | 0, _, _, e => nos e
 | k + 1, a, d, e => (bes e).elim fun o z => by
  have e2 := z.2
  unfold objD at e2
  cases hd : o.data with
  | seq its j =>
   rw [hd] at e2
   by_cases q : tupO o = true
   ·exact (mes ((if_pos q).symm.trans e2)).elim fun ds y => y.2 ▸ .mk a its j rfl (tupO_eq q hd ▸ X _ _ z.1) id (VRs_eq ds ▸ allO_sound (valO_sound (refD_sound X k)) _ ds y.1)
   ·exact nos ((if_neg q).symm.trans e2)
  | func _ => rw [hd] at e2; cases e2; exact rfl
  | cls _ => rw [hd] at e2; cases e2; exact rfl
  | _ => rw [hd] at e2; exact nos e2
theorem valD_sound (X : K.In h) (k : Nat) : ∀ (v : Value) (d : D), valD K tab k v = some d → VR (fun _ => False) h (N0 tab) d v := valO_sound (refD_sound X k)
end
theorem lB_eq : ∀ {l r : List Nat}, lB l r = true → l = r
 | [], [], _ => rfl
 | a :: l, b :: r, h => by
  have h : (match Nat.beq a b with | true => lB l r | false => false) = true := h
  cases e : Nat.beq a b with
  | false => rw [e] at h; exact nomatch h
  | true => rw [e] at h; rw [Nat.eq_of_beq_eq_true e, lB_eq h]
 | [], _ :: _, h => nomatch h
 | _ :: _, [], h => nomatch h
theorem codeB_in {K : Frag} {cd : Value} {q : Str} (h : codeB K cd q = true) : codeIn K cd q = true := by
 unfold codeB at h
 unfold codeIn
 split at h
 ·split at h
  ·rename_i e
   dsimp only
   rw [e]
   dsimp only
   split at h
   ·rename_i e
    rw [e]
    have h := lB_eq h
    rename_i n _ _ _
    obtain ⟨⟨n⟩⟩ := n
    obtain ⟨⟨q⟩⟩ := q
    cases h
    exact beq_self_eq_true _
   ·exact nomatch h
  ·exact nomatch h
 ·exact nomatch h
theorem funcOf_eq {d : Data} {fd : FuncData} (h : funcOf d = some fd) : d = .func fd := by
 cases d with
 | func => cases h; rfl
 | _ => exact nos h
theorem stmtsOf_eq {d : FuncBody} {b : List Stmt} (h : stmtsOf d = some b) : d = .stmts b := by
 cases d with
 | stmts => cases h; rfl
 | _ => exact nos h
theorem fnK_ok {g : G} (X : g.K.In g.hB) {a : Nat} {mf : MFun} (e : fnK g.K a = some mf) : FunOk g a mf := (bes e).elim fun o z => (bes z.2).elim fun fd y => (bes y.2).elim fun b w => by
 by_cases p : PlainFd g.K fd
 ·cases (if_pos p).symm.trans w.2
  exact ⟨⟨o, fd, X _ _ z.1, funcOf_eq y.1, stmtsOf_eq w.1, rfl, List.isEmpty_iff.mp p.2.1.1, p.2.1.2.1, p.2.1.2.2.1, codeRec_of X (codeB_in p.2.1.2.2.2.1), fun vals hv => bindArgs_plain (List.isEmpty_iff.mp p.1.1) (Option.isNone_iff_eq_none.mp p.1.2.1) (List.isEmpty_iff.mp p.1.2.2.1) (Option.isNone_iff_eq_none.mp p.1.2.2.2.1) p.1.2.2.2.2 p.2.1.2.2.2.2 hv.symm⟩,
   p.2.1.2.2.2.2, p.2.2.1, p.2.2.2.1, p.2.2.2.2.1, p.2.2.2.2.2.1, p.2.2.2.2.2.2⟩
 ·exact nos ((if_neg p).symm.trans w.2)
theorem fnAt_eq {K : Frag} {f : Nat} (h : fnAt K f = true) : typeIn K (.ref f) = some (.type "function") ∧ (fnK K f).isSome = true := ((Bool.and_eq_true _ _).mp h).imp eq_of_beq id
theorem cls_ck {K : Frag} {a : Nat} {c : CI} (h : ClsChk K a c) : CK K a c.info := ⟨h.1.1, h.1.2.1, h.1.2.2.1, h.1.2.2.2.1, h.1.2.2.2.2, fun x hx => h.2.2.2 x (List.contains_iff_mem.mp hx), fun x f e => (h.2.2.1 _ (lookup_in e)).imp id fun q => (fnAt_eq q).1⟩
theorem subK_t {K : Frag} {k a : Nat} (h : subK K k a = some true) : isIn K (.ref k) a = true := by
 unfold subK at h
 by_cases q : isIn K (.ref k) a = true
 ·exact q
 ·rw [if_neg q] at h; split at h <;> cases h
theorem subK_f {K : Frag} {k a : Nat} (h : subK K k a = some false) : KN K k a := by
 unfold subK at h
 by_cases q : isIn K (.ref k) a = true
 ·rw [if_pos q] at h; cases h
 ·rw [if_neg q] at h
  split at h
  ·rename_i p; exact ⟨p.1, p.2.1, p.2.2.1, p.2.2.2.1, p.2.2.2.2.1, p.2.2.2.2.2.1, p.2.2.2.2.2.2⟩
  ·cases h
end
section
theorem two?_eq {α : Type} {l : List α} {p : α × α} (h : two? l = some p) : l = [p.1, p.2] := by
 cases l with
 | nil => exact nos h
 | cons a l =>
  cases l with
  | nil => exact nos h
  | cons b l => cases l with
   | nil => cases h; rfl
   | cons => exact nos h
theorem three?_eq {α : Type} {l : List α} {p : α × α × α} (h : three? l = some p) : l = [p.1, p.2.1, p.2.2] := by
 cases l with
 | nil => exact nos h
 | cons a l => exact (mes h).elim fun q z => by rw [← z.2, two?_eq z.1]
theorem attrOf_eq {e : Expr} {p : Expr × Str} (h : attrOf e = some p) : ∃ q, e = .Attribute p.1 p.2 q := by
 cases e with
 | Attribute o a q => cases h; exact ⟨q, rfl⟩
 | _ => exact nos h
theorem asgOf_eq {st : Stmt} {u : Str × Str × Str} (h : asgOf st = some u) : ∃ p1 p2 p3 p4, st = .Assign [.Attribute (.Name u.1 p1) u.2.1 p2] (.Name u.2.2 p3) p4 := by
 cases st with
 | Assign ts v p4 =>
  refine (bes h).elim fun t z => (bes z.2).elim fun p y => (bes y.2).elim fun x w => (mes w.2).elim fun b v => (nameOf_eq w.1).elim fun p1 e1 => (nameOf_eq v.1).elim fun p3 e3 => (attrOf_eq y.1).elim fun p2 e2 => ⟨p1, p2, p3, p4, ?_⟩
  rw [one?_eq z.1, ← v.2, e3, e2, e1]
 | _ => exact nos h
theorem initAt_eq {K : Frag} {pe f : Nat} (h : initAt K pe = some f) : findIn K (.ref pe) "__init__" = some (some (.ref f)) := by
 unfold initAt at h
 split at h
 ·rename_i e; cases h; exact e
 ·exact nos h
theorem iniK_ok {g : G} (X : g.K.In g.hB) (h : iniK g.K g.T.pe = some ()) : PeIni g := (bes h).elim fun f z => by
 by_cases q : typeIn g.K (.ref f) = some (.type "function")
 ·refine (bes ((if_pos q).symm.trans z.2)).elim fun mf y => (bes y.2).elim fun p v => (bes v.2).elim fun b x => (bes x.2).elim fun u r => (bes r.2).elim fun w t => ?_
  by_cases c : IniChk g.K g.T.pe mf.scope p u w
  ·refine (asgOf_eq r.1).elim fun p1 e => e.elim fun p2 e => e.elim fun p3 e => e.elim fun p4 e => (asgOf_eq t.1).elim fun p5 d => d.elim fun p6 d => d.elim fun p7 d => d.elim fun p8 d => ?_
   have em : mf = ⟨[p.1, p.2.1, p.2.2], mf.scope, iniBody p.1 p.2.1 p.2.2 u.2.1 w.2.1 p1 p2 p3 p4 p5 p6 p7 p8⟩ := by
    obtain ⟨ps, sc, bd⟩ := mf
    have e1 := three?_eq v.1
    have e2 := two?_eq x.1
    dsimp only at e1 e2
    rw [e1, e2, e, d, c.1.1, c.1.2.1, c.1.2.2.1, c.1.2.2.2]
   exact ⟨f, _, _, _, _, _, p1, p2, p3, p4, p5, p6, p7, p8, mf.scope, initAt_eq z.1, q, em ▸ fnK_ok X y.1, c.2.1.1, c.2.1.2.1, c.2.1.2.2, c.2.2.1.1, c.2.2.1.2.1, c.2.2.1.2.2, c.2.2.2.1, c.2.2.2.2⟩
  ·exact nos ((if_neg c).symm.trans t.2)
 ·exact nos ((if_neg q).symm.trans z.2)
theorem clsOf?_eq {d : Data} {c : ClassData} (h : clsOf? d = some c) : d = .cls c := by
 cases d with
 | cls => cases h; rfl
 | _ => exact nos h
theorem uncons?_eq {α : Type} {l : List α} {p : α × List α} (h : uncons? l = some p) : l = p.1 :: p.2 := by
 cases l with
 | nil => exact nos h
 | cons => cases h; rfl
theorem cd_eq {cd : ClassData} {m : List Value} (h1 : cd.mro = m) (h2 : cd.hasDict = true) (h3 : cd.hasDel = false) : cd = ⟨cd.name, cd.bases, m, cd.ns, cd.qualname, true, cd.slotNames, cd.subclasses, cd.abstract, cd.collection, false⟩ := by
 cases cd; cases h1; cases h2; cases h3; rfl
theorem obj_eq {o : Obj} {c : Value} {d : Data} {s : Array (Option Value)} (h1 : o.cls = c) (h2 : o.data = d) (h3 : o.slots = s) : o = ⟨c, o.dict, d, s⟩ := by
 cases h1; cases h2; cases h3; rfl
theorem peClsO_ok {g : G} {o : Obj} (hl : g.K.lookup g.T.pe = some o) (h : peClsO g.T.pe o = some ()) : PeCls g := (bes h).elim fun cd z => (bes z.2).elim fun p y => by
 by_cases c : SlotsOk g.T.pe o cd p.1 p.2
 ·exact ⟨cd.name, cd.qualname, cd.ns, cd.bases, p.2, cd.slotNames, cd.subclasses, cd.abstract, cd.collection, o.dict, slot o 0, slot o 1, slot o 2, slot o 3, slot o 5, hl.trans (congrArg some (obj_eq c.1 ((clsOf?_eq z.1).trans (congrArg Data.cls (cd_eq ((uncons?_eq y.1).trans (congrArg (· :: p.2) c.2.1)) c.2.2.1 c.2.2.2.1))) c.2.2.2.2.2)), c.2.2.2.2.1⟩
 ·exact nos ((if_neg c).symm.trans y.2)
theorem peChk_ok {g : G} (X : g.K.In g.hB) (e : peChk g.K g.T.pe = true) : PeOk g ∧ ktsIn g.K g.T.pe "BaseException" = true :=
 have c := of_decide_eq_true e
 (bes c.1.1).elim fun o z => ⟨⟨peClsO_ok z.1 z.2, c.2.1, c.2.2.1, iniK_ok X c.1.2⟩, c.2.2.2⟩
end
section
structure TabIs (K : Frag) (tab : List (Nat × List Nat)) (t : TB) : Prop where
 cls : ∀ p ∈ t.clss, ClsChk K p.1 p.2
 sub : ∀ p ∈ t.subs, subK K p.1.1 p.1.2 = some p.2
 pe : peChk K t.pe = true
 fn : t.fns.map (fun p => fnK K p.1) = t.fns.map fun p => some p.2
 gl : t.globs.map (fun p => globK K tab p.1) = t.globs.map fun p => some p.2
 bl : t.blts.map (fun p => bltK K tab p.1) = t.blts.map fun p => some p.2
noncomputable def TB.closed (t : TB) : Bool := t.clss.all fun p => (t.fns.lookup p.2.init).isSome && p.2.meths.all fun q => (t.fns.lookup q.2).isSome
theorem keepIn_fn {K : Frag} {b : Nat} (h : (fnK K b).isSome = true) : keepIn K (.ref b) = true := (Option.isSome_iff_exists.mp h).elim fun mf e => (bes e).elim fun o z => (bes z.2).elim fun fd y => by
 have e2 := funcOf_eq y.1
 obtain ⟨c, d, dt, sl⟩ := o
 cases (e2 : dt = _)
 unfold keepIn
 dsimp only
 rw [z.1]
theorem ns_some_of {K : Frag} {h : Heap} {N : Addr} {mg : Str → Option Value} {n : Str} {v : Value} (X : K.In h) (G : h.Ns N mg) (e : nsIn K N n = some (some v)) : mg n = some v := by
 obtain ⟨o, es, ep, ho, hd, _, hf⟩ := G
 unfold nsIn at e
 split at e
 ·rename_i c d es' n' sl q
  have := X _ _ q
  rw [this] at ho
  cases ho
  cases hd
  split at e
  ·rename_i en he
   cases e
   rw [← hf]
   unfold nsFind findBy
   rw [← Array.find?_toList, he]
   rfl
  ·split at e <;> cases e
 ·cases e
theorem join_some {α : Type} {o : Option (Option α)} {a : α} (h : o.bind id = some a) : o = some (some a) := (bes h).elim fun p z => z.1.trans (congrArg some z.2)
theorem at_map {α β : Type} {f g : α → β} {l : List α} (h : l.map f = l.map g) : ∀ a ∈ l, f a = g a := List.map_inj_left.mp h
theorem tab_ok {g : G} {tab : List (Nat × List Nat)} {t : TB} {mg mb : Str → Option Value} (hT : g.T = t.tab) (hn : g.n0 = N0 tab) (ht : TabIs g.K tab t) (hc : t.closed = true) (X : g.K.In g.hB) (nsg : g.hB.Ns mainGlobals mg) (nsb : g.hB.Ns builtinsNs mb) (lim : g.hB.NoLimit) : GOk g mg mb ∧ TK g ∧ ProgOk g := by
 obtain ⟨prog, w, K, hB, T, os, n0⟩ := g
 cases hT
 cases hn
 have hfn : ∀ a mf, t.fns.lookup a = some mf → fnK K a = some mf := fun a mf e => at_map ht.fn _ (lookup_in e)
 have hcl : ∀ k ci, t.tab.cls k = some ci → ∃ c, (k, c) ∈ t.clss ∧ c.info = ci := fun k ci e => (mes e).imp fun c z => z.imp lookup_in id
 have hcd : ∀ p ∈ t.clss, (t.fns.lookup p.2.init).isSome = true ∧ ∀ q ∈ p.2.meths, (t.fns.lookup q.2).isSome = true := fun p hp => ((Bool.and_eq_true _ _).mp (List.all_eq_true.mp hc p hp)).imp id List.all_eq_true.mp
 have P := peChk_ok (g := ⟨prog, w, K, hB, t.tab, os, N0 tab⟩) X ht.pe
 refine ⟨⟨X, nsg, nsb, lim, fun x d e => ?_, fun x d _ e => ?_⟩, ⟨fun k ci e => (hcl k ci e).elim fun c z => z.2 ▸ cls_ck (ht.cls _ z.1), fun k a e => subK_t (ht.sub _ (lookup_in (t := (k, a)) e)), fun k a e => subK_f (ht.sub _ (lookup_in (t := (k, a)) e)), fun k ci x fn e e2 => (hcl k ci e).elim fun c z => ?_⟩,
  ⟨fun a mf e => fnK_ok X (hfn a mf e), fun a ci e => (hcl a ci e).elim fun c z => ?_, fun a e => (Option.isSome_iff_exists.mp e).elim fun mf z => keepIn_fn (by rw [hfn a mf z]; rfl), fun a e => (Option.isSome_iff_exists.mp e).elim fun ci z => (hcl a ci z).elim fun c y => (ht.cls _ y.1).2.1.2.1, P.1, P.2⟩⟩
 ·exact (bes (at_map ht.gl _ (lookup_in e))).elim fun v z => ⟨v, ns_some_of X nsg (join_some z.1), valD_sound X _ _ _ z.2⟩
 ·have q := at_map ht.bl _ (lookup_in e)
  by_cases h0 : nsIn K mainGlobals x = some none
  ·exact (bes ((if_pos h0).symm.trans q)).elim fun v z => ⟨ns_none_of X nsg h0, v, ns_some_of X nsb (join_some z.1), valD_sound X _ _ _ z.2⟩
  ·exact nos ((if_neg h0).symm.trans q)
 ·cases z.2
  exact (hcd _ z.1).2 (x, fn) (lookup_in e2)
 ·cases z.2
  have q := (ht.cls _ z.1).2.1
  exact ⟨q.1, q.2.2.1, (fnAt_eq q.2.2.2).1, (hcd _ z.1).1⟩
theorem fragAt_in {h : Nat → Option Obj} {as : List Nat} {a : Nat} {o : Obj} (e : (fragAt h as).lookup a = some o) : h a = some o :=
 (List.mem_filterMap.mp (lookup_in e)).elim fun b z => (mes z.2).elim fun o' y => by cases y.2; exact y.1
abbrev IntsR : List Int → List Value → Prop := All2 fun i v => ∃ t, v = .int i t
theorem IntsR.vrs {S : Addr → Prop} {h : Heap} {n : List Nat → Nat → Prop} {ds : List Int} {vs : List Value} (r : IntsR ds vs) : VRs S h n (ds.map .int) vs := by
 rw [VRs_eq, All2.map]
 exact r
end
section
noncomputable abbrev gOf (prog : Program) (w : World) (K : Frag) (tab : List (Nat × List Nat)) (t : TB) (s : Shared) : G := ⟨prog, w, K, s.heap, t.tab, s.os, N0 tab⟩
noncomputable abbrev cOf (tab : List (Nat × List Nat)) (h : Heap) : Cx := ⟨s0, fun _ => (0, 0), h, fun _ => False, N0 tab, fun _ => False⟩
theorem cOf_S {tab : List (Nat × List Nat)} {h : Heap} (b : Addr) : ¬ (cOf tab h).S b := fun q => q.elim (fun z => z.elim fun _ y => y) id
theorem cOf_st {prog : Program} {w : World} {K : Frag} {tab : List (Nat × List Nat)} {t : TB} {s : Shared} (hg : s.gens = #[]) (hpos : 0 < s.toks) (tk : ∀ x n, tab.lookup n = some x → 0 < n ∧ n < s.toks) : St (gOf prog w K tab t s) (cOf tab s.heap) s :=
 ⟨rfl, fun b _ e => ⟨e, cOf_S b⟩, fun _ => trivial, fun _ _ _ h => h.elim, fun _ _ => rfl, fun _ q => q.elim, hg, rfl, fun _ _ h => h, hpos, fun x n => tk x n, fun _ _ _ h1 h2 => some_nil (h1.symm.trans h2), fun _ q => q.elim fun _ q => q.elim⟩
theorem law_run {prog : Program} {w : World} {s s₁ : Shared} {K : Frag} {t : TB} {a : Nat} {mg mb : Str → Option Value} (X0 : K.In s.heap) (nsg : s.heap.Ns mainGlobals mg) (nsb : s.heap.Ns builtinsNs mb) (lim : s.heap.NoLimit)
  (ht : TabIs K (tabAt K) t) (hc : t.closed = true) (htok : toksOk (tabAt K) s.toks = true) (hpos : Nat.blt 0 s.toks = true) (gr : Grows s s₁) (hg : s₁.gens = #[]) (hfn : (t.fns.lookup a).isSome = true) {l : Addr} {vs : List Value} {ds : List Int} {k : Nat}
  (hl : s₁.heap.get? l = some (seqO "list" vs.toArray k)) (hv : IntsR ds vs) {KK n : Nat} (hn : n ≤ 250)
  {st : MSt} (mini : callN t.tab KK n a [.d (.lst (ds.map .int))] s0 = .ok (.d (.bool true)) st) {E : Value → Shared → Prop} :
  wpAny (model prog w) callerA (PySem.call (.ref a) [.ref l] []) (fun v s' => v = .bool true ∧ (∀ b o, s₁.heap.get? b = some o → s'.heap.get? b = some o) ∧ s'.os = s₁.os ∧ s'.gens = #[]) E s₁ := by
 have X1 : K.In s₁.heap := fun b o e => gr.keeps b o (X0 b o e)
 have T := tab_ok (g := gOf prog w K (tabAt K) t s₁) (tab := tabAt K) rfl rfl ht hc X1 (nsg.keeps gr.keeps) (nsb.keeps gr.keeps) (lim.keeps gr.keeps)
 have X := cOf_st (prog := prog) (w := w) (K := K) (tab := tabAt K) (t := t) hg (lll (Nat.blt_eq.mp hpos) gr.toks) fun x n e => ((Bool.and_eq_true _ _).mp (List.all_eq_true.mp htok _ (lookup_in e))).imp Nat.blt_eq.mp fun q => lll (Nat.blt_eq.mp q) gr.toks
 have rv : MRs (cOf (tabAt K) s₁.heap) [.d (.lst (ds.map .int))] [.ref l] := .cons (.mk l _ _ rfl hl (cOf_S l) hv.vrs) .nil
 refine wpAny_call (codeAny_mono (code_ok (K := KK) (n := n) T.1 T.2.1 T.2.2 (fun m _ => call_ok T.1 T.2.1 T.2.2 KK m) hfn (A := callerA) (envs := []) rfl rfl (by show 301 + 2 * n ≤ 901; omega) (by show 4 + 10 * n ≤ 8993; omega) X ⟨trivial, (fun _ h => nomatch h), fun _ q => q.elim⟩ rv (by rw [show (cOf (tabAt K) s₁.heap).st = s0 from rfl, mini]; exact nofun) ⟨callerA, default, [], 0⟩ rfl rfl) fun r s' hr => ?_)
 cases r with
 | error e => exact nomatch hr.1.symm.trans mini
 | ok fl =>
  cases fl with
  | ret v =>
   cases hr with | mk mv c' e X' A' r' =>
   cases e.symm.trans mini
   exact ⟨r', fun b o e => X'.heap ▸ (X'.base b o e).1, X'.os, X'.gens⟩
  | _ => exact hr.elim
end
theorem law_any {r : OpenRow} {q : Program} {loose : List Str} {Xt : Shared → Bool} {XP : (Str → Option Value) → Heap → Prop} {α : Type} {Yf : Shared → α} {Ya : World → α} {N : Nat} {d : DefRec} {kwd : List (Str × Expr)}
  (left : LeftO r.prog q loose Xt Yf Ya N) (hX : ∀ s, Xt s = true → XP (s.heap.nsMap mainGlobals) s.heap) (hXk : ∀ mg h h', XP mg h → (∀ b o, h.get? b = some o → h'.get? b = some o) → XP mg h')
  (hdef : defOf q r.name = some (d, kwd)) (hp : r.prog.theDef r.name = some (d.params, d.body, d.scope)) (hk : kwWritten? d.params.kwonlyargs d.params.kw_defaults = some kwd) (hRf : ∀ s, Xt s = true → RecFacts r.records s.heap) (hwr : (!r.writes || r.records.isEmpty) = true)
  (said : r.wellSaid = true) (ok : (chainsOk q && opensWell r.prog && (frees r.toRowW && r.within.isEmpty)) = true) (hb : r.prog.bare) (hw : r.toRowW.promised)
  (call : ∀ (w : World) (s s₁ : Shared), Yf s = Ya w → Grows s s₁ → s.gens = #[] → s₁.gens = #[] → s.heap.Ns mainGlobals (s.heap.nsMap mainGlobals) → s.heap.Ns builtinsNs (s.heap.nsMap builtinsNs) → s.heap.NoLimit → ∀ (f : Value), s.heap.nsMap mainGlobals r.name = some f →
   ∀ (args : List WData) (vs : List Value) (as : List Addr), r.claim.pre args = true → WData.layableAll args = true → ReadsAllW r.records (classAt s.heap) s₁.heap vs args as → (∃ ord, layAllW r.records (classAt s.heap) w.params ord args s = some (vs, s₁)) →
    wpAny (model r.prog w) callerA (PySem.call f vs) (fun v s' => GoodWG r.claim (classAt s.heap) (ExcName.means s.heap) args s₁ (.ok (.ret v)) s')
     (fun e s' => GoodWG r.claim (classAt s.heap) (ExcName.means s.heap) args s₁ (.error e) s') s₁) : r.Holds := by
 refine ⟨said, hw, ?_⟩
 obtain ⟨ok, k5⟩ := Bool.and_eq_true_iff.mp ok
 obtain ⟨hch, o1⟩ := Bool.and_eq_true_iff.mp ok
 obtain ⟨k5, k6⟩ := Bool.and_eq_true_iff.mp k5
 obtain ⟨hsame, hu, ha, hap, hm⟩ := frees_parts k5
 have hi := ident_freeW hu ha hap
 have hwi : r.claim.within = [] := List.isEmpty_iff.mp k6
 have left' := fun w => left.behind (XP := fun mg h => XP mg h ∧ RecFacts r.records h) (fun s hs => ⟨hX s hs, hRf s hs⟩) hch w
 refine ⟨⟨hb, o1, by show r.makers.map _ = []; rw [hm]; rfl⟩, hw.witness, fun w => ⟨(left' w).1, fun s' hs' => ?_⟩⟩
 obtain ⟨s₀, hf, hg0, s, hT, hz, hgens, hg, G00, y⟩ := (left' w).2 s' hs'
 have G0 : Ground q loose [] XP w s (s.heap.nsMap mainGlobals) (s.heap.nsMap builtinsNs) s.heap := ⟨G00.T, G00.B, G00.D, G00.TE, G00.TD, G00.W, G00.X.1, G00.cls, G00.has, G00.apart, G00.once, G00.K⟩
 have RF := G00.X.2
 have hgens : s.gens = #[] := Array.eq_empty_of_size_eq_zero (beq_iff_eq.mp hgens)
 have G : Ground q loose r.records XP w s _ _ s.heap := RF.ground G0
 have pin : ∀ n ∈ (if r.pinned then [r.name] else []), isTheDefsW r.prog s.heap n := fun n hn => by
  obtain rfl : n = r.name := by split at hn <;> simp_all
  exact pinned_of_view hg G0 hdef hp hk
 refine ⟨s₀, hf, hg0, s, hT, pin, RF.1, RF.2.1, ClaimW.callFrom_of_specG (c := r.claim) hz hgens fun args hpre hlay ord hord => ?_⟩
 obtain ⟨⟨vs, s₁⟩, hlaid⟩ := Option.isSome_iff_exists.mp (layAllW_isSome (P := w.params) (ord := ord) G.has args r.args s (pre_splitW hpre).1)
 have gr := layAllW_grows _ _ _ hlaid
 have hal := layAllW_rest _ _ _ hlaid
 obtain ⟨as, hrd, hin, hold⟩ := reads_layAllW hord _ _ _ hlaid hlay s₁.heap (fun _ _ e => e)
 have L : Laid r.records w s s₁ args vs as := ⟨⟨ord, hord, hlaid⟩, hrd, hin, hold, gr.keeps, hal.1.trans hgens, hal.2.2.1⟩
 have G₁ := G.keeps hXk gr.keeps
 obtain ⟨a, o, pm, cd, doc, dV, kV, h1, _⟩ := G.fn hdef
 have h := call w s s₁ y gr hgens (hal.1.trans hgens) G.T.g G.T.b G.T.nolimit (.ref a) h1 args vs as hpre hlay hrd ⟨ord, hlaid⟩
 have tree : ∀ (Q : PySem.Fin → Shared → Prop) (E : Value → Shared → Prop), wpAny (model r.prog w) callerA (PySem.call (.ref a) vs) (fun v s' => Q (.done (.ret v)) s') E s₁ →
   wpAny (model r.prog w) callerA (do match ← nsGet mainNs r.name with
    | some f => do ret (← PySem.call f vs)
    | none => unsupported "claim.caller:no-such-global") Q E s₁ := fun Q E h => wpAny_bind (wpAny_nsGet G₁.T.g (by rw [h1]; exact wpAny_bind (wpAny_mono h (fun _ _ x => wpAny_pure x) fun _ _ x => x)))
 exact ⟨vs, s₁, hlaid, tree _ _ (wpAny_mono h (fun v s' g => ⟨_, rfl, have z := g.laid (c := r.claim) hsame hwi hi L; ⟨z.1, z.2.1, z.2.2, fun q => ⟨namesKept_of hT hg r.keeps gr.keeps g.2.1.old, noTable hwr q⟩⟩⟩)
  fun e s' g => have z := g.laid (c := r.claim) hsame hwi hi L; ⟨z.1, z.2.1, z.2.2, fun q => ⟨namesKept_of hT hg r.keeps gr.keeps g.2.1.old, noTable hwr q⟩⟩)⟩
end
section
open PySem PySem.W
noncomputable def T0 : Tab := TB0.tab
theorem TB0_closed : TB0.closed = true := by kernel_rfl
noncomputable def obs (K : Frag) (n : Nat) := (obs1 K n, obs2 K)
noncomputable def expO := (true, exp2)
theorem obs_is {K : Frag} {n : Nat} (e : obs K n = expO) : TabIs K (tabAt K) TB0 ∧ toksOk (tabAt K) n = true ∧ Nat.blt 0 n = true :=
 have h := Prod.mk.inj e
 have h2 := Prod.mk.inj h.2
 have h3 := Prod.mk.inj h2.2
 have b := (Bool.and_eq_true _ _).mp h.1
 have b2 := (Bool.and_eq_true _ _).mp b.2
 have c := of_decide_eq_true b.1
 ⟨⟨c.1, c.2, b2.1, h2.1, h3.1, h3.2⟩, (Bool.and_eq_true _ _).mp b2.2⟩
end
section
open PySem PySem.W PyProof.Rows
set_option maxHeartbeats 0
end
section
open PySem PySem.W PyProof.Rows
theorem getT_abs (S : SharedT) : S.abs.heap.get? = getT S := by
 funext a
 unfold getT
 cases hb : Nat.blt a S.n with
 | true =>
  have hlt : a < S.n := Nat.blt_eq.mp hb
  cases hg : S.tree.get a with
  | some o => exact abs_get hlt hg
  | none =>
   show (absHeap S.tree S.n S.life).get? a = _
   unfold Heap.get?
   rw [absHeap_at, if_pos hlt, hg]
   rfl
 | false =>
  refine abs_get_none fun hlt => ?_
  rw [Nat.blt_eq.mpr hlt] at hb
  cases hb
theorem topRunT_spec {p : Program} {w : World} {n₀ : Nat} {ann : Option Value} : ∀ {n : Nat} {S S' : SharedT} {t : Thread}, topRunT p w n₀ ann n S t = some S' → topRun treeTable p w n₀ ann n S.abs t = some S'.abs
 | 0, _, _, _, h => by cases h
 | n + 1, S, S', t, h => by
  unfold topRunT at h
  unfold topRun
  cases h1 : through t with
  | true => rw [h1] at h; cases h; rfl
  | false =>
   rw [h1] at h
   dsimp only at h ⊢
   cases h2 : stepOk n₀ ann t with
   | false => rw [h2] at h; cases h
   | true =>
    rw [h2] at h
    dsimp only at h ⊢
    cases h3 : PySem.W.Fast.tw10156331382660048174 (PySem.W.Fast.tw11892475500146522536 PySem.W.Fast.tw14364793385576792824) p w S t with
    | none => rw [h3] at h; cases h
    | some q =>
     obtain ⟨s', t'⟩ := q
     rw [h3] at h
     dsimp only at h
     rw [← PySem.W.Fast.te10156331382660048174, ← PySem.W.Fast.te11892475500146522536, ← PySem.W.Fast.te14364793385576792824] at h3
     rw [stepT_spec h3]
     exact topRunT_spec h
theorem boot_abs (P : Params) (os : OsState) : (S0 P os).abs = ⟨boot_heap P, #[], boot_drawn, boot_toks, os⟩ := by kernel_rfl
theorem boot_isNs (P : Params) : (boot_heap P).isNs mainGlobals = true := by kernel_rfl
theorem boot_ann (P : Params) : (boot_heap P).nsMap mainGlobals "__annotations__" = some (.ref 6) := by kernel_rfl
theorem boot_size (P : Params) : (boot_heap P).objs.size = 11 := by kernel_rfl
theorem pw_open : opening pw = plainProg pw.main.scope.names := by kernel_rfl
theorem pw_fence (s : Shared) : fenceModules? pw s = some s := by kernel_rfl
noncomputable abbrev Xt : Shared → Bool := fun s => xlAt qv [] s && recOk [] s
noncomputable abbrev Yf (s : Shared) := obs (KS s.heap.get?) s.toks
theorem from_run {P : Params} {w' : World} {s₀ : Shared} (h0 : (s₀.heap, s₀.gens, s₀.drawn, s₀.toks) = (boot_heap P, Array.mk [], boot_drawn, boot_toks))
  (hA : (topRunT pw w' 11 (some (.ref 6)) 8000 (S0 P s₀.os) (topStub pw)).map (seeA P) = some (true, openGood qv lsv))
  (h1 : (topRunT pw w' 11 (some (.ref 6)) 8000 (S0 P s₀.os) (topStub pw)).map see1 = some true)
  (h2 : (topRunT pw w' 11 (some (.ref 6)) 8000 (S0 P s₀.os) (topStub pw)).map see2 = some exp2) :
  (topFrom treeTable pw w' 8000 s₀).map (fun s => (openSeen qv lsv (importedModules pw.main.body) Xt true s, Yf s)) = some (openGood qv lsv, expO) := by
 obtain ⟨hp, gg, dr, tk, os⟩ := s₀
 obtain ⟨e1, f2⟩ := Prod.mk.inj h0
 obtain ⟨e2, f3⟩ := Prod.mk.inj f2
 obtain ⟨e3, e4⟩ := Prod.mk.inj f3
 dsimp only at e1 e2 e3 e4 hA h1 h2
 subst e1 e2 e3 e4
 obtain ⟨S, hS, hsee⟩ := mes hA
 rw [hS] at h1 h2
 have s3 : obs (KS (getT S)) S.toks = expO := Prod.ext (Option.some.inj h1) (Option.some.inj h2)
 unfold seeA at hsee
 obtain ⟨s1, s2⟩ := Prod.mk.inj hsee
 have hr := topRunT_spec hS
 rw [boot_abs] at hr
 unfold topFrom
 dsimp only
 rw [boot_isNs, boot_ann, boot_size]
 have g0 : ((Array.mk [] : Array GenState).size == 0) = true := rfl
 rw [g0]
 rw [show topRun treeTable pw w' 11 (some (.ref 6)) 8000 ⟨boot_heap P, Array.mk [], boot_drawn, boot_toks, os⟩ (topStub pw) = some S.abs from hr]
 dsimp only [Option.bind]
 rw [s1]
 show some (_, _) = _
 rw [← getT_abs] at s3
 rw [← PySem.W.Fast.te4187177175401517315] at s2
 exact congrArg some (Prod.ext s2 s3)
theorem left_of
  (hf : ∀ (w : World) (os : OsState), runB false w os (seeA w.params) = some (true, openGood qv lsv) ∧ runB false w os see1 = some true ∧ runB false w os see2 = some exp2)
  (ht : ∀ (w : World) (os : OsState), runB true w os (seeA w.params) = some (true, openGood qv lsv) ∧ runB true w os see1 = some true ∧ runB true w os see2 = some exp2) :
  LeftO pw qv lsv Xt Yf (fun _ => expO) 8000 := by
 refine LeftO.of_split "special-get-raises" fun w => ?_
 obtain ⟨s₀, hs, hv⟩ := mes (boot_open (N := 8000) pw_open (by decide) pw_fence w)
 rw [hs]
 show some (_, _) = some (_, _)
 exact congrArg some (Prod.ext (from_run hv (hf w s₀.os).1 (hf w s₀.os).2.1 (hf w s₀.os).2.2) (from_run hv (ht w s₀.os).1 (ht w s₀.os).2.1 (ht w s₀.os).2.2))
end
section
open PySem PySem.W PyProof.Rows
set_option maxHeartbeats 0
def MiniLaw : Prop := ∀ ds : List Int, ds.length ≤ 63 → ∃ st, callN T0 1000000 200 979 [.d (.lst (ds.map .int))] s0 = .ok (.d (.bool true)) st
section
variable {R : WRecords} {cl : Str → Option Addr} {P : Params} {ord : List DictEntry → List DictEntry}
theorem lay_cons {x : WData} {xs : List WData} {s : Shared} {q : List Value × Shared} (h : layAllW R cl P ord (x :: xs) s = some q) : ∃ a r, layW R cl P ord x s = some a ∧ layAllW R cl P ord xs a.2 = some r ∧ (a.1 :: r.1, r.2) = q := by
 have h : (match layW R cl P ord x s with | some a => (match layAllW R cl P ord xs a.2 with | some r => some (a.1 :: r.1, r.2) | none => none) | none => none) = some q := h
 cases h1 : layW R cl P ord x s with
 | none => rw [h1] at h; exact nos h
 | some a =>
  rw [h1] at h
  dsimp only at h
  cases h2 : layAllW R cl P ord xs a.2 with
  | none => rw [h2] at h; exact nos h
  | some r => rw [h2] at h; exact ⟨a, r, rfl, h2, some_nil h⟩
theorem lay_list {xs : List WData} {s : Shared} {q : Value × Shared} (h : layW R cl P ord (.list xs) s = some q) : ∃ r, layAllW R cl P ord xs s = some r ∧ (Value.ref r.2.heap.objs.size, { r.2 with heap := r.2.heap.push (seqO "list" r.1.toArray 0) }) = q := by
 have h : (match layAllW R cl P ord xs s with | some r => some (Value.ref r.2.heap.objs.size, { r.2 with heap := r.2.heap.push (seqO "list" r.1.toArray 0) }) | none => none) = some q := h
 cases h1 : layAllW R cl P ord xs s with
 | none => rw [h1] at h; exact nos h
 | some r => rw [h1] at h; exact ⟨r, rfl, some_nil h⟩
theorem lay_ints : ∀ {xs : List WData} {s : Shared} {q : List Value × Shared}, WShape.hasItems R xs .int = true → layAllW R cl P ord xs s = some q → ∃ ds, ds.length = xs.length ∧ IntsR ds q.1
 | [], _, _, _, h => by cases h; exact ⟨[], rfl, rfl⟩
 | x :: xs, s, q, hx, h => (lay_cons h).elim fun a z => z.elim fun r z => by
  have hx := (Bool.and_eq_true _ _).mp (show (WShape.has R x .int && WShape.hasItems R xs .int) = true from hx)
  refine (lay_ints hx.2 z.2.1).elim fun ds y => ?_
  cases z.2.2
  cases x with
  | int i =>
   cases (show some (Value.int i s.toks, { s with toks := s.toks + 1 }) = some a from z.1)
   exact ⟨i :: ds, congrArg (· + 1) y.1, .cons ⟨_, rfl⟩ y.2⟩
  | _ => exact nomatch (show false = true from hx.1)
end
theorem pre_len {R : WRecords} {xs : List WData} (h : WTm.holds R (.and (.not (.lt (.lit (.int 63)) (.len (.arg 0)))) (.lit (.bool true))) { args := [.list xs] } = true) : xs.length ≤ 63 := by
 have e1 : (WTm.not (.lt (.lit (.int 63)) (.len (.arg 0)))).value R { args := [.list xs] } = some (.bool (!decide ((63 : Int) < (xs.length : Int)))) := w_not (w_lt rfl (w_len_list rfl))
 unfold WTm.holds at h
 unfold WTm.value at h
 rw [e1] at h
 by_cases q : (63 : Int) < (xs.length : Int)
 ·rw [decide_eq_true q] at h; cases h
 ·exact Int.ofNat_le.mp (Int.not_lt.mp q)
theorem args_list {R : WRecords} {args : List WData} (h : WShape.hasAll R args [.list .int] = true) : ∃ xs, args = [.list xs] ∧ WShape.hasItems R xs .int = true := by
 obtain ⟨d, r, rfl, h1, h2⟩ := hasAllW_cons h
 have hr : r = [] := by
  cases r with
  | nil => rfl
  | cons _ _ => exact nomatch (show false = true from h2)
 subst hr
 cases d with
 | list xs => exact ⟨xs, rfl, (Bool.or_false _).symm.trans (show (WShape.hasItems R xs .int || false) = true from h1)⟩
 | _ => exact nomatch (show false = true from h1)
theorem law_post {R : WRecords} {a b : List WData} : (WShape.has R (.bool true) .bool && WTm.holds R (.eq .res (.lit (.bool true))) { args := a, res := some (.bool true), after := b }) = true := (Bool.and_eq_true _ _).mpr ⟨rfl, by simp [WTm.holds, WTm.value, same]⟩
theorem law_promised : PySem.Challenge.rw_nt0125_01.row.toRowW.promised := ⟨[.list []], by decide +kernel, by decide +kernel⟩
theorem law_ref {mg : Str → Option Value} {h : Heap} {K : Frag} {f : Value} (X : K.In h) (nsg : h.Ns mainGlobals mg) (hf : mg (so "law") = some f) (ht : TabIs K (tabAt K) TB0) : f = .ref 979 := by
 have e : globK K (tabAt K) (so "law") = some (.glob 979) := at_map ht.gl _ (lookup_in (t := so "law") (x := D.glob 979) (by kernel_rfl))
 refine (bes e).elim fun v z => ?_
 cases some_nil ((ns_some_of X nsg (join_some z.1)).symm.trans hf)
 have q := valD_sound (h := h) X _ _ _ z.2
 exact q
theorem law_holds_of (left : LeftO pw qv lsv Xt Yf (fun _ => expO) 8000) (mini : MiniLaw) : PySem.Challenge.rw_nt0125_01.Holds := by
 refine holds_law law_said fun said => ?_
 refine law_any (q := qv) (loose := lsv) (Xt := Xt) (XP := XL qv []) (Yf := Yf) (Ya := fun _ => expO) (N := 8000) left (fun s e => xl_of s (Bool.and_eq_true_iff.mp e).1) XL.keeps (by rfl) (by rfl) (by rfl)
  (fun s e => recFacts_of (Bool.and_eq_true_iff.mp e).2) (by rfl) said (by decide +kernel) ⟨rfl, rfl, rfl, rfl, rfl, by decide +kernel⟩ law_promised ?_
 intro w s s₁ hY gr hg0 hg nsg nsb lim f hf args vs as hpre hlay hrd hord
 refine hord.elim fun ord hlaid => ?_
 have hT := obs_is hY
 have X0 : Frag.In (KS s.heap.get?) s.heap := fun b o e => fragAt_in e
 have ha := pre_splitW hpre
 refine (args_list ha.1).elim fun xs hx => ?_
 cases hx.1
 have hlen := pre_len ha.2
 refine (lay_cons hlaid).elim fun p z => z.elim fun r2 z => (lay_list z.1).elim fun r y => ?_
 cases (show some ([], p.2) = some r2 from z.2.1)
 cases y.2
 cases z.2.2
 have h2 := y.1
 refine (lay_ints hx.2 h2).elim fun ds hd => ?_
 cases law_ref X0 nsg hf hT.1
 refine (mini ds (hd.1 ▸ hlen)).elim fun st hmini => ?_
 refine wpAny_mono (law_run (prog := PySem.Challenge.rw_nt0125_01.row.prog) (w := w) (t := TB0) (a := 979) X0 nsg nsb lim hT.1 TB0_closed hT.2.1 hT.2.2 gr hg (by kernel_rfl) (l := r.2.heap.objs.size) (vs := r.1) (ds := ds) (k := 0) (Heap.get?_push_size _ rfl) hd.2 (KK := 1000000) (n := 200) (by decide) hmini
  (E := fun e s' => GoodWG PySem.Challenge.rw_nt0125_01.row.claim (classAt s.heap) (ExcName.means s.heap) [.list xs] { r.2 with heap := r.2.heap.push { cls := .type "list", data := .seq r.1.toArray } } (.error e) s')) (fun v s' z => ?_) fun _ _ x => x
 cases z.1
 exact GoodW.toG ⟨.inl ⟨_, .bool true, [], rfl, fun _ => rfl, .bool true, law_post, fun _ => ⟨List.nodup_nil, fun _ h => nomatch h⟩⟩, z.2⟩
end
section
open PySem
section
variable {s : MSt} {c : Cfg}
noncomputable def fB (a : Nat) : List Stmt := ((T0.fn a).map (·.body)).getD []
noncomputable def fS (a : Nat) : Scope := ((T0.fn a).map (·.scope)).getD default
noncomputable abbrev cN (K n : Nat) : Cfg := ⟨T0, K, callN T0 K n⟩
theorem run {K n a : Nat} {args : List MV} {o : O MV} (t : Tr MV s o) (e : t.on (fnP T0 K n a args) = t.ops) : callN T0 K (n + 1) a args s = M.bind (fun _ => o) (retM (T0.keep a) s.next) s := fnP_sd (t.ok _ e)
theorem ev_run {e : Expr} {sc : Scope} {E : EL} {o : O MV} (t : Tr MV s o) (h : t.on ((evtP c e sc E).1 Pg.ret) = t.ops) : ev c e sc (lk E) s = o := by
 have z := ev_p (φ := id) (c := c) e sc E (k := Pg.ret) (K := M.pure) (fun a => Sd.ret fun _ => rfl) (t.ok _ h)
 have e1 : M.bind (ev c e sc (lk E)) M.pure s = ev c e sc (lk E) s := by unfold M.bind; cases ev c e sc (lk E) s <;> rfl
 exact e1.symm.trans (z.trans (by cases o <;> rfl))
theorem ts_run {e : Expr} {sc : Scope} {E : EL} {o : O Bool} (t : Tr Bool s o) (h : t.on ((evtP c e sc E).2 Pg.ret) = t.ops) : tst c e sc (lk E) s = o := by
 have z := ts_p (φ := id) (c := c) e sc E (k := Pg.ret) (K := M.pure) (fun a => Sd.ret fun _ => rfl) (t.ok _ h)
 have e1 : M.bind (tst c e sc (lk E)) M.pure s = tst c e sc (lk E) s := by unfold M.bind; cases tst c e sc (lk E) s <;> rfl
 exact e1.symm.trans (z.trans (by cases o <;> rfl))
noncomputable def flE (p : Fl × EL) : Fl × LEnv := (p.1, lk p.2)
theorem xs_run {b : List Stmt} {sc : Scope} {E : EL} {o : O (Fl × EL)} (t : Tr (Fl × EL) s o) (h : t.on (exsP c sc b E fun fl E => .ret (fl, E)) = t.ops) : exs c sc b (lk E) s = o.map flE := by
 have z := xs_p (φ := flE) (c := c) b sc E (g := fun fl E => .ret (fl, E)) (K := M.pure) (fun fl E => Sd.ret fun _ => rfl) (t.ok _ h)
 have e1 : M.bind (exs c sc b (lk E)) M.pure s = exs c sc b (lk E) s := by unfold M.bind; cases exs c sc b (lk E) s <;> rfl
 exact e1.symm.trans z
theorem fld_of {m k : Nat} {fs : List (Str × MV)} (ho : s.objs m = .inst k fs) {a : Str} {v : MV} (h : ((T0.cls k).bind fun ci => fieldOf ci fs a) = some v) : optM (getField T0 (.ref m) a) s = .ok v s := by
 have e : instOf (.ref m) s = some (k, fs) := by unfold instOf; dsimp only; rw [ho]
 have e2 : getField T0 (.ref m) a s = some v := (congrArg (fun o : Option (Nat × List (Str × MV)) => o.bind fun p => (T0.cls p.1).bind fun ci => fieldOf ci p.2 a) e).trans h
 unfold optM; rw [e2]
noncomputable def mthO (k : Nat) (fs : List (Str × MV)) (m : Nat) (a : Str) : Option Meth := (T0.cls k).bind fun ci => ownMeth ci fs (.ref m) a
theorem mth_of {m k f : Nat} {fs : List (Str × MV)} (ho : s.objs m = .inst k fs) {a : Str} (h : mthO k fs m a = some (.fn f (.ref m))) : mM (optM (methOf T0 (.ref m) a)) s = .ok (.d (.glob f)) s := by
 have e : instOf (.ref m) s = some (k, fs) := by unfold instOf; dsimp only; rw [ho]
 have e0 : methOf T0 (.ref m) a s = match instOf (.ref m) s with | some p => mthO p.1 p.2 m a | none => if a = so "append" then appOf (.ref m) s else none := rfl
 have e2 : methOf T0 (.ref m) a s = some (.fn f (.ref m)) := by rw [e0, e]; exact h
 unfold mM M.bind optM; rw [e2]; rfl
theorem app_m {m : Nat} {l : List MV} (ho : s.objs m = .list l) : mM (optM (methOf T0 (.ref m) (so "append"))) s = .ok (.d .none) s := by
 have e : instOf (.ref m) s = none := by unfold instOf; dsimp only; rw [ho]
 have e0 : methOf T0 (.ref m) (so "append") s = match instOf (.ref m) s with | some p => mthO p.1 p.2 m (so "append") | none => if so "append" = so "append" then appOf (.ref m) s else none := rfl
 have e2 : methOf T0 (.ref m) (so "append") s = some (.app m) := by rw [e0, e]; dsimp only; rw [if_pos rfl]; unfold appOf; dsimp only; rw [ho]
 unfold mM M.bind optM; rw [e2]; rfl
theorem app_r {m : Nat} {l : List MV} {v : MV} (ho : s.objs m = .list l) (h : l.length < cap) : on1 (appM m) [v] s = .ok (.d .none) ⟨s.next, upd s.objs m (.list (l ++ [v]))⟩ := by
 show appM m v s = _
 unfold appM; rw [ho]; exact if_pos h
theorem mkl {l : List MV} (h : l.length ≤ cap) : mkList l s = .ok (.ref s.next) ⟨s.next + 1, upd s.objs s.next (.list l)⟩ := by unfold mkList; rw [if_pos h]; rfl
theorem mks {l : List Nat} (h : l.length ≤ cap) : mkStr l s = .ok (.d (.str l)) s := if_pos h
theorem adds {x y : List Nat} (h : (x ++ y).length ≤ cap) : addS (.d (.str x)) (.d (.str y)) s = .ok (.d (.str (x ++ y))) s := mks h
theorem lof {m : Nat} {l : List MV} (ho : s.objs m = .list l) : lOf (.ref m) s = some l := by unfold lOf; dsimp only; rw [ho]
theorem addl {a b : MV} {x y : List MV} (ha : lOf a s = some x) (hb : lOf b s = some y) (h : (x ++ y).length ≤ cap) (e : a.str? = none) : addS a b s = .ok (.ref s.next) ⟨s.next + 1, upd s.objs s.next (.list (x ++ y))⟩ := by
 have e0 : addS a b s = addL a b s := by unfold addS; rw [e]
 rw [e0]; unfold addL; rw [ha, hb]; exact mkl h
theorem gi {α : Type} {f : α → MV} {l : List α} {k : Int} {x : α} (hk : 0 ≤ k ∧ k < 2 ^ 62) (h : l[k.toNat]? = some x) : pick f l k s = .ok (f x) s := by unfold pick; rw [if_pos hk, h]; rfl
theorem gi_ref {m : Nat} {l : List MV} {k : Int} {x : MV} (ho : s.objs m = .list l) (hk : 0 ≤ k ∧ k < 2 ^ 62) (h : l[k.toNat]? = some x) : getItem (.ref m) (.d (.int k)) s = .ok x s := by
 show (match lOf (.ref m) s with | some l => pick id l k s | none => .bad) = _
 rw [lof ho]; exact gi hk h
theorem gi_lst {l : List D} {k : Int} {x : D} (hk : 0 ≤ k ∧ k < 2 ^ 62) (h : l[k.toNat]? = some x) : getItem (.d (.lst l)) (.d (.int k)) s = .ok (.d x) s := by
 show pick id (l.map .d) k s = _
 exact gi hk (by rw [List.getElem?_map, h]; rfl)
theorem si_ref {m : Nat} {l : List MV} {k : Int} {x : MV} (ho : s.objs m = .list l) (hk : 0 ≤ k ∧ k.toNat < l.length ∧ l.length ≤ cap) : mU (setItem (.ref m) (.d (.int k)) x) s = .ok (.d .none) ⟨s.next, upd s.objs m (.list (l.set k.toNat x))⟩ := by
 have e : setItem (.ref m) (.d (.int k)) x s = .ok () ⟨s.next, upd s.objs m (.list (l.set k.toNat x))⟩ := by unfold setItem; dsimp only; rw [ho]; exact if_pos hk
 unfold mU M.bind; rw [e]; rfl
theorem cm {op : CmpOp} {a b : MV} {t : Bool} (h : cmp op a b s = some t) : mB (cmpM op a b) s = .ok (.d (.bool t)) s := by unfold mB M.bind cmpM; rw [h]; rfl
theorem lt_t {x y : Int} (h : x < y) : mB (cmpM .Lt (.d (.int x)) (.d (.int y))) s = .ok (.d (.bool true)) s := cm (congrArg some (decide_eq_true h))
theorem lt_f {x y : Int} (h : ¬ x < y) : mB (cmpM .Lt (.d (.int x)) (.d (.int y))) s = .ok (.d (.bool false)) s := cm (congrArg some (decide_eq_false h))
theorem gt_t {x y : Int} (h : y < x) : mB (cmpM .Gt (.d (.int x)) (.d (.int y))) s = .ok (.d (.bool true)) s := cm (congrArg some (decide_eq_true h))
theorem gt_f {x y : Int} (h : ¬ y < x) : mB (cmpM .Gt (.d (.int x)) (.d (.int y))) s = .ok (.d (.bool false)) s := cm (congrArg some (decide_eq_false h))
theorem ge_t {x y : Int} (h : y ≤ x) : mB (cmpM .GtE (.d (.int x)) (.d (.int y))) s = .ok (.d (.bool true)) s := cm (congrArg some (decide_eq_true h))
theorem ge_f {x y : Int} (h : ¬ y ≤ x) : mB (cmpM .GtE (.d (.int x)) (.d (.int y))) s = .ok (.d (.bool false)) s := cm (congrArg some (decide_eq_false h))
theorem eqi_t {x y : Int} (h : x = y) : mB (cmpM .Eq (.d (.int x)) (.d (.int y))) s = .ok (.d (.bool true)) s := cm (congrArg some (decide_eq_true h))
theorem eqi_f {x y : Int} (h : ¬ x = y) : mB (cmpM .Eq (.d (.int x)) (.d (.int y))) s = .ok (.d (.bool false)) s := cm (congrArg some (decide_eq_false h))
theorem eqs_t {x y : List Nat} (h : x = y) : mB (cmpM .Eq (.d (.str x)) (.d (.str y))) s = .ok (.d (.bool true)) s := cm (congrArg some (decide_eq_true h))
theorem eqs_f {x y : List Nat} (h : ¬ x = y) : mB (cmpM .Eq (.d (.str x)) (.d (.str y))) s = .ok (.d (.bool false)) s := cm (congrArg some (decide_eq_false h))
theorem nes_t {x y : List Nat} (h : ¬ x = y) : mB (cmpM .NotEq (.d (.str x)) (.d (.str y))) s = .ok (.d (.bool true)) s := cm (congrArg (fun b => some (!b)) (decide_eq_false h))
theorem nes_f {x y : List Nat} (h : x = y) : mB (cmpM .NotEq (.d (.str x)) (.d (.str y))) s = .ok (.d (.bool false)) s := cm (congrArg (fun b => some (!b)) (decide_eq_true h))
theorem in_s {x y : List Nat} {b : Bool} (h : isSub x y = b) : mB (cmpM .In (.d (.str x)) (.d (.str y))) s = .ok (.d (.bool b)) s := cm (congrArg some h)
theorem ni_s {x y : List Nat} {b : Bool} (h : isSub x y = b) : mB (cmpM .NotIn (.d (.str x)) (.d (.str y))) s = .ok (.d (.bool !b)) s := cm (congrArg (fun b => some (!b)) h)
theorem in_t {x : List Nat} {l : List D} {b : Bool} (h : strEqAny x l = some b) : mB (cmpM .In (.d (.str x)) (.d (.tup l))) s = .ok (.d (.bool b)) s := cm h
theorem ni_t {x : List Nat} {l : List D} {b : Bool} (h : strEqAny x l = some b) : mB (cmpM .NotIn (.d (.str x)) (.d (.tup l))) s = .ok (.d (.bool !b)) s := cm (congrArg (Option.map (!·)) h)
theorem in_l {x : List Nat} {m : Nat} {l : List MV} {ds : List D} {b : Bool} (ho : s.objs m = .list l) (h1 : allD l = some ds) (h : strEqAny x ds = some b) : mB (cmpM .In (.d (.str x)) (.ref m)) s = .ok (.d (.bool b)) s := cm (by
 show ((lOf (.ref m) s).bind allD).bind (strEqAny x) = some b
 rw [lof ho]; exact (congrArg (fun o => Option.bind o (strEqAny x)) h1).trans h)
theorem modi {x y : Int} (h : 0 < y) : binop .Mod (.d (.int x)) (.d (.int y)) s = .ok (.d (.int (x % y))) s := by
 show M.opt ((if 0 < y then some (x % y) else none).map fun z => MV.d (.int z)) s = _
 rw [if_pos h]; rfl
theorem divi {x y : Int} (h : 0 < y ∧ y < 2 ^ 62) : binop .FloorDiv (.d (.int x)) (.d (.int y)) s = .ok (.d (.int (x / y))) s := by
 show M.opt ((if 0 < y ∧ y < 2 ^ 62 then some (x / y) else none).map fun z => MV.d (.int z)) s = _
 rw [if_pos h]; rfl
theorem muli {x y : Int} (h : (small x || small y) = true) : binop .Mult (.d (.int x)) (.d (.int y)) s = .ok (.d (.int (x * y))) s := by
 show M.opt ((if (small x || small y) = true then some (x * y) else none).map fun z => MV.d (.int z)) s = _
 rw [if_pos h]; rfl
theorem len_ref {m : Nat} {l : List MV} (ho : s.objs m = .list l) (h : l.length ≤ cap) : callBi T0 "len" [.ref m] s = .ok (.d (.int l.length)) s := by
 show (match lOf (.ref m) s with | some l => if l.length ≤ cap then O.ok (MV.d (.int l.length)) s else .bad | none => .bad) = _
 rw [lof ho]; exact if_pos h
theorem hb_d {n : Nat} {x : D} : handBack n (.d x) s = .ok (.d x) ⟨s.next, above n s.objs⟩ := rfl
end
end
section
open PySem
set_option genInjectivity false
set_option genSizeOf false
inductive Tk where
 | key (k : List Nat) | free (v : List Nat) | sg (c : Nat) | nu (n : Nat) | en
noncomputable section
def letL : List Nat := cp "abcdefghijklmnopqrstuvwxyzABCDEFGHIJKLMNOPQRSTUVWXYZ_"
def nsL : List Nat := cp "abcdefghijklmnopqrstuvwxyzABCDEFGHIJKLMNOPQRSTUVWXYZ_0123456789$"
noncomputable def sgL : List Nat := [40, 41, 44, 43, 45]
def ntexts : List (List Nat) := [cp "", cp "A", cp "B1", cp "_C", cp "TAB", cp "NOCASE", cp "RTRIM", cp "INT", cp "TEXT", cp "VARCHAR", cp "BIG", cp "NUMBER", cp "X", cp "Y"]
def keys16 : List (List Nat) := [cp "CONSTRAINT", cp "PRIMARY", cp "KEY", cp "NOT", cp "NULL", cp "UNIQUE", cp "COLLATE", cp "IF", cp "EXISTS", cp "CREATE", cp "TABLE", cp "INDEX", cp "ON", cp "DROP", cp "DESC", cp "ASC"]
noncomputable def has (l : List (List Nat)) (w : List Nat) : Bool := l.any fun x => decide (x = w)
noncomputable def hasN (l : List Nat) (c : Nat) : Bool := l.any fun x => Nat.beq x c
noncomputable def sepC : Nat → Bool := hasN [32, 10, 40, 41, 44]
noncomputable def sepB : List Nat → Bool
 | [] => true
 | c :: _ => sepC c
def bareOk : List Nat → Bool
 | [] => false
 | x :: w => hasN letL x && w.all (hasN nsL)
def btB (w : List Nat) (k : Tk) : Bool := bareOk w && match k with
 | .key k => decide (upperA w = k) && has keys16 k
 | .free v => decide (v = w) && has ntexts (upperA w)
 | _ => false
def Qok (q : Nat) (x : List Nat) : Prop := (q = 34 ∨ q = 96) ∧ (q ∉ x ∨ ∃ y z, x = y ++ q :: z ∧ q ∉ y ∧ q ∉ z)
def NumW (w : List Nat) : Prop := w = [49, 48] ∨ w = [53] ∨ w = [50]
inductive Lx : List Nat → List Tk → Prop
 | nil : Lx [] []
 | blank {c r ts} (h : c = 32 ∨ c = 10) (t : Lx r ts) : Lx (c :: r) ts
 | line {r ts} (t : Lx (10 :: r) ts) : Lx (45 :: 45 :: 32 :: 40 :: 10 :: r) ts
 | note {r ts} (t : Lx r ts) : Lx (47 :: 42 :: 32 :: 44 :: 32 :: 42 :: 47 :: r) ts
 | bare {w r k ts} (h : btB w k = true) (s : sepB r = true) (t : Lx r ts) : Lx (w ++ r) (k :: ts)
 | brack {x r ts} (h : 93 ∉ x) (t : Lx r ts) : Lx (91 :: (x ++ 93 :: r)) (.free x :: ts)
 | quote {q x r ts} (h : Qok q x) (s : sepB r = true) (t : Lx r ts) : Lx (q :: (repl1 q [q, q] x ++ q :: r)) (.free x :: ts)
 | num {w r ts} (h : NumW w) (s : sepB r = true) (t : Lx r ts) : Lx (w ++ r) (.nu (numOf w) :: ts)
 | sign {c r ts} (h : hasN sgL c = true) (n : c = 45 → r.take 1 ≠ [45]) (t : Lx r ts) : Lx (c :: r) (.sg c :: ts)
def LexU (u : List Nat) (ts : List Tk) : Prop := ∀ r tk, sepB r = true → Lx r tk → Lx (u ++ r) (ts ++ tk)
def LexF (u : List Nat) (ts : List Tk) : Prop := ∀ r tk, Lx r tk → Lx (u ++ r) (ts ++ tk)
section
variable {u v : List Nat} {a b : List Tk}
theorem LexF.toU (h : LexF u a) : LexU u a := fun r tk _ => h r tk
theorem sep_app (h : sepB v = true) {r : List Nat} (hr : sepB r = true) : sepB (v ++ r) = true := by
 cases v with
 | nil => exact hr
 | cons c v => exact h
theorem LexU.cat (h : LexU u a) (h2 : LexU v b) (s : sepB v = true) : LexU (u ++ v) (a ++ b) := fun r tk hr t => by
 rw [lap, lap]; exact h _ _ (sep_app s hr) (h2 r tk hr t)
theorem LexF.cat (h : LexF u a) (h2 : LexU v b) : LexU (u ++ v) (a ++ b) := fun r tk hr t => by
 rw [lap, lap]; exact h _ _ (h2 r tk hr t)
theorem LexF.catF (h : LexF u a) (h2 : LexF v b) : LexF (u ++ v) (a ++ b) := fun r tk t => by
 rw [lap, lap]; exact h _ _ (h2 r tk t)
theorem LexU.nil : LexU [] [] := fun _ _ _ t => t
theorem LexF.nil : LexF [] [] := fun _ _ t => t
theorem lx_bl : LexF [32] [] := fun _ _ t => .blank (.inl rfl) t
theorem LexU.f (h : LexU u a) (h2 : LexF v b) (s : sepB v = true) (n : v ≠ []) : LexF (u ++ v) (a ++ b) := fun r tk t => by
 rw [lap, lap]
 refine h _ _ ?_ (h2 r tk t)
 cases v with
 | nil => exact absurd rfl n
 | cons c v => exact s
theorem LexU.all (h : LexU u a) : Lx u a := by
 have z := h [] [] rfl .nil
 rwa [lan, lan] at z
theorem lx_sg {c : Nat} (h : hasN [40, 41, 44, 43] c = true) : LexF [c] [.sg c] := fun r tk t => by
 refine .sign ?_ ?_ t
 ·unfold hasN sgL at *
  exact (List.any_append (xs := [40, 41, 44, 43]) (ys := [45])).trans (by rw [h]; rfl)
 ·intro e; subst e; exact absurd h (by decide)
theorem lx_bare {k : Tk} (h : btB u k = true) : LexU u [k] := fun _ _ hr t => .bare h hr t
theorem lx_brack (h : 93 ∉ u) : LexU (91 :: (u ++ [93])) [.free u] := fun r _ _ t => by
 have z := Lx.brack h t
 rwa [← List.singleton_append (l := r), ← lap] at z
theorem lx_quote {q : Nat} (h : Qok q u) : LexU (q :: (repl1 q [q, q] u ++ [q])) [.free u] := fun r _ hr t => by
 have z := Lx.quote h hr t
 rwa [← List.singleton_append (l := r), ← lap] at z
theorem lx_num (h : NumW u) : LexU u [.nu (numOf u)] := fun _ _ hr t => .num h hr t
theorem lx_minus (h : NumW u) : LexU (45 :: u) [.sg 45, .nu (numOf u)] := fun _ _ hr t => .sign (by decide) (fun _ => by rcases h with rfl | rfl | rfl <;> exact nofun) (.num h hr t)
end
structure Wr (w : List Nat) (ts : List Tk) : Prop where
 lex : LexU w ts
 len : w.length ≤ 40
inductive Ws : List (List Nat) → List Tk → Prop
 | nil : Ws [] []
 | cons {w ws t ts} (h : Wr w t) (r : Ws ws ts) : Ws (w :: ws) (t ++ ts)
theorem Ws.app {ws ws' : List (List Nat)} {ts ts' : List Tk} (h : Ws ws ts) (h2 : Ws ws' ts') : Ws (ws ++ ws') (ts ++ ts') := by
 induction h with
 | nil => exact h2
 | cons h _ ih => rw [lap]; exact .cons h ih
theorem Ws.one {w : List Nat} {t : Tk} (h : Wr w [t]) : Ws [w] [t] := .cons h .nil
theorem wr_sg {c : Nat} (h : hasN [40, 41, 44, 43] c = true) : Wr [c] [.sg c] := ⟨(lx_sg h).toU, by show 1 ≤ 40; decide⟩
def KF (w v : List Nat) : Prop := v = w ∨ v = lowerA w ∨ v = w.take 1 ++ lowerA (w.drop 1)
def keyB (k : List Nat) : Bool := ascii k && Nat.ble k.length 20 && btB k (.key k) && btB (lowerA k) (.key k) && btB (k.take 1 ++ lowerA (k.drop 1)) (.key k)
theorem keys_ok : ∀ k ∈ keys16, keyB k = true := by decide +kernel
theorem lower_len (l : List Nat) : (lowerA l).length = l.length := llm ..
theorem upper_len (l : List Nat) : (upperA l).length = l.length := llm ..
theorem key_ok {k : List Nat} (h : k ∈ keys16) : (ascii k = true ∧ k.length ≤ 20) ∧ ∀ v, KF k v → Wr v [.key k] := by
 have z := keys_ok k h
 unfold keyB at z
 rw [Bool.and_eq_true, Bool.and_eq_true, Bool.and_eq_true, Bool.and_eq_true] at z
 have hl := lbe z.1.1.1.2
 have h4 : k.length ≤ 40 := nlt hl (by decide)
 refine ⟨⟨z.1.1.1.1, hl⟩, fun v hv => ?_⟩
 rcases hv with rfl | rfl | rfl
 ·exact ⟨lx_bare z.1.1.2, h4⟩
 ·exact ⟨lx_bare z.1.2, by rw [lower_len]; exact h4⟩
 ·exact ⟨lx_bare z.2, by rw [lla, lower_len, ← lla, List.take_append_drop]; exact h4⟩
def names8 : List (List Nat) := [cp "a", cp "b1", cp "_c", cp "tab", cp "order", cp "x y", cp "q\"q", cp "select"]
def names11 : List (List Nat) := names8 ++ [cp "nocase", cp "RTRIM", cp "NOCASE"]
abbrev Na := { w : List Nat // w ∈ names11 }
def bare4 : List (List Nat) := [cp "a", cp "b1", cp "_c", cp "tab"]
def NF (n w : List Nat) : Prop := (w = n ∧ n ∈ bare4) ∨ (w = 91 :: (n ++ [93]) ∧ isSub [93] n = false) ∨ ((w = 96 :: (repl1 96 [96, 96] n ++ [96])) ∨ (w = 34 :: (repl1 34 [34, 34] n ++ [34])))
noncomputable def qokB (q : Nat) (x : List Nat) : Bool := !hasN x q || (decide (x = [113, 34, 113]) && Nat.beq q 34)
theorem hasN_mem {l : List Nat} {c : Nat} (h : hasN l c = false) : c ∉ l := fun m => by
 unfold hasN at h
 have z := List.any_eq_false.mp h c m
 exact z (Nat.beq_refl c)
theorem qok_of {q : Nat} {x : List Nat} (hq : q = 34 ∨ q = 96) (h : qokB q x = true) : Qok q x := by
 refine ⟨hq, ((Bool.or_eq_true _ _).mp h).imp (fun h => hasN_mem (by rw [← Bool.not_eq_true', h])) fun h => ?_⟩
 have z := (Bool.and_eq_true _ _).mp h
 rw [of_decide_eq_true z.1, Nat.eq_of_beq_eq_true z.2]
 exact ⟨[113], [113], rfl, by decide, by decide⟩
noncomputable def nameB (n : List Nat) : Bool := Nat.ble (repl1 34 [34, 34] n).length 30 && Nat.ble (repl1 96 [96, 96] n).length 30 && Nat.ble n.length 8 && !hasN n 93 && qokB 34 n && qokB 96 n
theorem names_ok : ∀ n ∈ names11, nameB n = true := by decide +kernel
theorem bare_ok : ∀ n ∈ bare4, btB n (.free n) = true := by decide +kernel
theorem name_ok {n : List Nat} (h : n ∈ names11) : (n.length ≤ 8 ∧ (repl1 34 [34, 34] n).length ≤ 30 ∧ (repl1 96 [96, 96] n).length ≤ 30) ∧ ∀ v, NF n v → Wr v [.free n] := by
 have z := names_ok n h
 unfold nameB at z
 rw [Bool.and_eq_true, Bool.and_eq_true, Bool.and_eq_true, Bool.and_eq_true, Bool.and_eq_true] at z
 have hl := lbe z.1.1.1.2
 have len {m : Nat} {l : List Nat} (q : Nat) (h : l.length ≤ m) (hm : m ≤ 30) : (q :: (l ++ [q])).length ≤ 40 := by
  rw [llc, lla]
  exact nlt (Nat.add_le_add_right (Nat.add_le_add_right (nlt h hm) 1) 1) (by decide)
 refine ⟨⟨hl, lbe z.1.1.1.1.1, lbe z.1.1.1.1.2⟩, fun v hv => ?_⟩
 rcases hv with ⟨rfl, hb⟩ | ⟨rfl, _⟩ | rfl | rfl
 ·exact ⟨lx_bare (bare_ok _ hb), nlt hl (by decide)⟩
 ·refine ⟨lx_brack (hasN_mem (by rw [← Bool.not_eq_true', z.1.1.2])), ?_⟩
  rw [llc, lla]
  exact nlt (Nat.add_le_add_right (Nat.add_le_add_right hl 1) 1) (by decide)
 ·exact ⟨lx_quote (qok_of (.inr rfl) z.2), len 96 (lbe z.1.1.1.1.2) (nlr _)⟩
 ·exact ⟨lx_quote (qok_of (.inl rfl) z.1.2), len 34 (lbe z.1.1.1.1.1) (nlr _)⟩
end
noncomputable section
structure Ix where
 nm : Na
 co : Option Na
 de : Bool
inductive Cc | pk (d : Bool) | nn | uq | co (n : Na)
def tyP : List (List (List Nat) × Nat) := [([], 0), ([cp "INT"], 0), ([cp "text"], 0), ([cp "VARCHAR"], 1), ([cp "big", cp "number"], 2), ([cp "x y"], 0), ([cp "VARCHAR(10)"], 0), ([cp "big number(5,-2)"], 0), ([cp "x", cp "y"], 0)]
def szX : Nat → List Nat
 | 0 => []
 | 1 => cp "(10)"
 | _ => cp "(5,-2)"
noncomputable def szT : Nat → List Tk
 | 0 => []
 | 1 => [.sg 40, .nu 10, .sg 41]
 | _ => [.sg 40, .sg 43, .nu 5, .sg 44, .sg 45, .nu 2, .sg 41]
def tyX : List (List Nat) × Nat → Option (List Nat)
 | ([], _) => none
 | (ps, k) => some (joinL [32] ps ++ szX k)
noncomputable def tyTk (p : List (List Nat) × Nat) : List Tk := p.1.map .free ++ szT p.2
def tolds : List (Option (List Nat)) := [none, some (cp "INT"), some (cp "text"), some (cp "VARCHAR(10)"), some (cp "big number(5,-2)"), some (cp "x y")]
abbrev To := { t : Option (List Nat) // t ∈ tolds }
structure Cl where
 nm : Na
 ty : To
 cs : List Cc
structure Tc where
 pk : Bool
 cols : List Ix
inductive Sm
 | table (mi : Bool) (nm : Na) (cls : List Cl) (tcs : List Tc)
 | index (nm tb : Na) (xs : List Ix) (un mi : Bool)
 | drop (ix : Bool) (nm : Na) (ex : Bool)
noncomputable def optD : Option (List Nat) → D
 | none => .none
 | some s => .str s
noncomputable def nmD (n : Na) : D := .str n.1
def ixRow (x : Ix) : D := .tup [strD "indexed", nmD x.nm, optD (x.co.map (·.1)), .bool x.de]
def ccL : Cc → List D
 | .pk d => [strD "primary key", .bool d]
 | .nn => [strD "not null", .none]
 | .uq => [strD "unique", .none]
 | .co n => [strD "collate", nmD n]
def ccRow (c : Cc) : D := .tup (ccL c)
def clRow (c : Cl) : D := .tup [strD "columndef", nmD c.nm, optD c.ty.1, .tup (c.cs.map ccRow)]
def tcKind (b : Bool) : List Nat := match b with | true => cp "primary key" | false => cp "unique"
def tcRow (t : Tc) : D := .tup [strD "constraint", .str (tcKind t.pk), .tup (t.cols.map ixRow), .none]
def drKind (b : Bool) : List Nat := match b with | true => cp "index" | false => cp "table"
def stL : Sm → List D
 | .table mi nm cls tcs => [strD "createtable", nmD nm, .tup (cls.map clRow), .tup (tcs.map tcRow), .bool mi]
 | .index nm tb xs un mi => [strD "createindex", nmD nm, nmD tb, .tup (xs.map ixRow), .bool un, .bool mi]
 | .drop ix nm ex => [strD "drop", .str (drKind ix), nmD nm, .bool ex]
def stRow (x : Sm) : D := .tup (stL x)
abbrev tk (s : String) : Tk := .key (cp s)
inductive DeT : Bool → List Tk → Prop
 | d : DeT true [tk "DESC"]
 | a : DeT false [tk "ASC"]
 | n : DeT false []
def coT : Option Na → List Tk
 | none => []
 | some c => [tk "COLLATE", .free c.1]
inductive IxT (x : Ix) : List Tk → Prop
 | mk {ds} (h : DeT x.de ds) : IxT x (.free x.nm.1 :: (coT x.co ++ ds))
inductive FlT {α : Type} (R : α → List Tk → Prop) : List α → List Tk → Prop
 | nil : FlT R [] []
 | cons {x xs t ts} (h : R x t) (r : FlT R xs ts) : FlT R (x :: xs) (.sg 44 :: (t ++ ts))
theorem FlT.snoc {α : Type} {R : α → List Tk → Prop} {xs : List α} {ts t : List Tk} {x : α} (h : FlT R xs ts) (r : R x t) : FlT R (xs ++ [x]) (ts ++ (.sg 44 :: t)) := by
 induction h with
 | nil => have z := FlT.cons r .nil; rwa [lan] at z
 | cons h _ ih => rw [List.cons_append, List.cons_append, lap]; exact .cons h ih
inductive CsT (xs : List Ix) : List Tk → Prop
 | mk {t} (h : FlT IxT xs (.sg 44 :: t)) (l : xs.length ≤ 2) : CsT xs (.sg 40 :: (t ++ [.sg 41]))
inductive TyT (t : Option (List Nat)) : List Tk → Prop
 | mk {p} (h : p ∈ tyP) (e : tyX p = t) : TyT t (tyTk p)
inductive CrT : Cc → List Tk → Prop
 | pk {d ds} (h : DeT d ds) : CrT (.pk d) (tk "PRIMARY" :: tk "KEY" :: ds)
 | nn : CrT .nn [tk "NOT", tk "NULL"]
 | uq : CrT .uq [tk "UNIQUE"]
 | co {n} : CrT (.co n) [tk "COLLATE", .free n.1]
inductive CcsT : List Cc → List Tk → Prop
 | nil : CcsT [] []
 | ah {n : Na} {cs ts} (r : CcsT cs ts) : CcsT cs (tk "CONSTRAINT" :: .free n.1 :: ts)
 | no {cs ts} (r : CcsT cs ts) : CcsT cs (tk "NULL" :: ts)
 | cr {c cs t ts} (h : CrT c t) (r : CcsT cs ts) : CcsT (c :: cs) (t ++ ts)
theorem CcsT.app {cs ds : List Cc} {a b : List Tk} (h : CcsT cs a) (h2 : CcsT ds b) : CcsT (cs ++ ds) (a ++ b) := by
 induction h with
 | nil => exact h2
 | ah _ ih => exact .ah ih
 | no _ ih => exact .no ih
 | cr h _ ih => rw [lap]; exact .cr h ih
inductive ClT (c : Cl) : List Tk → Prop
 | mk {a b} (h : TyT c.ty.1 a) (r : CcsT c.cs b) : ClT c (.free c.nm.1 :: (a ++ b))
def tcT (b : Bool) : List Tk := match b with | true => [tk "PRIMARY", tk "KEY"] | false => [tk "UNIQUE"]
inductive TcT (c : Tc) : List Tk → Prop
 | mk {a} (h : CsT c.cols a) : TcT c (tcT c.pk ++ a)
noncomputable def ifT (b : Bool) (ts : List Tk) : List Tk := match b with | true => ts | false => []
def ineT (b : Bool) : List Tk := ifT b [tk "IF", tk "NOT", tk "EXISTS"]
def drT (b : Bool) : List Nat := match b with | true => cp "INDEX" | false => cp "TABLE"
def uqK (b : Bool) : List Nat := match b with | true => cp "UNIQUE" | false => cp "INDEX"
def uqT (b : Bool) : List Tk := ifT b [tk "INDEX"]
inductive StT : Sm → List Nat → List Nat → List Tk → Prop
 | table {mi nm cls tcs a b} (h : FlT ClT cls (.sg 44 :: a)) (h2 : FlT TcT tcs b) (l : cls.length ≤ 2) (l2 : tcs.length ≤ 1) : StT (.table mi nm cls tcs) (cp "CREATE") (cp "TABLE") (ineT mi ++ [.free nm.1, .sg 40] ++ (a ++ b) ++ [.sg 41])
 | index {nm tb xs un mi a} (h : CsT xs a) : StT (.index nm tb xs un mi) (cp "CREATE") (uqK un) (uqT un ++ ineT mi ++ [.free nm.1] ++ [tk "ON"] ++ [.free tb.1] ++ a)
 | drop {ix nm ex} : StT (.drop ix nm ex) (cp "DROP") (drT ix) (ifT ex [tk "IF", tk "EXISTS"] ++ [.free nm.1])
structure Sz (k0 k1 : List Nat) (b : Nat) (z : List (List Nat)) (tr : List Tk) : Prop where
 l : z.length ≤ b
 h : ∃ w0 w1 r, z = w0 :: w1 :: r ∧ Wr w0 [.key k0] ∧ Wr w1 [.key k1] ∧ Ws r tr
theorem Sz.gen {k0 k1 : List Nat} {b c : Nat} {z y : List (List Nat)} {tr t : List Tk} {G : Prop} (x : Sz k0 k1 b z tr) (w : Ws y t) (l : y.length ≤ c) (k : ∀ z', z ++ y = z' → Sz k0 k1 (b + c) z' (tr ++ t) → G) : G :=
 k _ rfl ⟨by rw [lla]; exact Nat.add_le_add x.l l, x.h.elim fun w0 h => h.elim fun w1 h => h.elim fun r h => ⟨w0, w1, r ++ y, by rw [h.1]; rfl, h.2.1, h.2.2.1, h.2.2.2.app w⟩⟩
theorem Sz.cap {k0 k1 : List Nat} {b : Nat} {z : List (List Nat)} {tr : List Tk} (x : Sz k0 k1 b z tr) (h : Nat.ble b cap = true) : z.length ≤ cap := nlt x.l (lbe h)
inductive HasW {α : Type} (R : α → List Tk → Prop) (b : Nat) (p : α × List (List Nat)) : Prop
 | mk (ts : List Tk) (r : R p.1 ts) (w : Ws p.2 ts) (l : p.2.length ≤ b)
theorem HasW.elim {α : Type} {R : α → List Tk → Prop} {b : Nat} {p : α × List (List Nat)} {G : Prop} (h : HasW R b p) (k : ∀ ts, R p.1 ts → Ws p.2 ts → p.2.length ≤ b → G) : G := by
 cases h with | mk ts r w l => exact k ts r w l
end
noncomputable abbrev nw (t : MSt) (o : MObj) : MSt := ⟨t.next + 1, upd t.objs t.next o⟩
noncomputable abbrev pt (t : MSt) (m : Nat) (o : MObj) : MSt := ⟨t.next, upd t.objs m o⟩
noncomputable def KK : Nat := 1000000
noncomputable def cl (n f : Nat) (args : List MV) : M MV := callN T0 KK n f args
structure Mv (x : Nat) (Q : MObj → Prop) (s t : MSt) : Prop where
 n : s.next ≤ t.next
 k : ∀ k, k < s.next → k ≠ x → t.objs k = s.objs k
 q : Q (t.objs x)
structure Fw (x : Nat) (Q : MObj → Prop) (s : MSt) (fs : List (Nat × MObj)) (t : MSt) : Prop extends Mv x Q s t where
 xl : x < s.next
 o : ∀ p ∈ fs, t.objs p.1 = p.2 ∧ s.next ≤ p.1 ∧ p.1 < t.next
 pw : fs.Pairwise fun p q => p.1 ≠ q.1
inductive Cal {α : Type} (f : α → MV) (r : O MV) (x : Nat) (Q : MObj → Prop) (s : MSt) (P : α → Prop) : Prop
 | mk (a : α) (s' : MSt) (e : r = .ok (f a) s') (m : Mv x Q s s') (p : P a)
section
variable {x : Nat} {Q Q' : MObj → Prop} {s t t' : MSt} {fs : List (Nat × MObj)} {r : O MV}
theorem Cal.elim {α : Type} {f : α → MV} {P : α → Prop} {G : Prop} (c : Cal f r x Q s P) (h : ∀ a s', r = .ok (f a) s' → Mv x Q s s' → P a → G) : G := by
 cases c with | mk v s' e m p => exact h v s' e m p
theorem q_of {a b : MObj} (e : a = b) (h : Q b) : Q a := by rw [e]; exact h
theorem uS (f : Nat → MObj) (n : Nat) (o : MObj) : upd f n o n = o := if_pos rfl
theorem uN {f : Nat → MObj} {n k : Nat} {o : MObj} (h : k ≠ n) : upd f n o k = f k := if_neg h
theorem Mv.refl (q : Q (s.objs x)) : Mv x Q s s := ⟨nlr _, fun _ _ _ => rfl, q⟩
theorem Mv.trans {Q' : MObj → Prop} {u : MSt} (a : Mv x Q s t) (b : Mv x Q' t u) : Mv x Q' s u := ⟨nlt a.n b.n, fun k h n => (b.k k (lll h a.n) n).trans (a.k k h n), b.q⟩
theorem Fw.start (xl : x < s.next) (q : Q (s.objs x)) : Fw x Q s [] s := ⟨Mv.refl q, xl, fun _ h => (nomatch h), .nil⟩
theorem Fw.g (w : Fw x Q s fs t) (i : Nat) {p : Nat × MObj} (h : fs[i]? = some p) : t.objs p.1 = p.2 := (w.o p (List.mem_of_getElem? h)).1
theorem Fw.lt (w : Fw x Q s fs t) (i : Nat) {p : Nat × MObj} (h : fs[i]? = some p) : p.1 < t.next := (w.o p (List.mem_of_getElem? h)).2.2
theorem Fw.own (w : Fw x Q s fs t) (i : Nat) {p : Nat × MObj} (h : fs[i]? = some p) : s.next ≤ p.1 := (w.o p (List.mem_of_getElem? h)).2.1
theorem Fw.x_lt (w : Fw x Q s fs t) : x < t.next := lll w.xl w.n
theorem xne {k : Nat} (xl : x < s.next) (h : s.next ≤ k) : k ≠ x := fun e => Nat.lt_irrefl x (lll xl (nlt h (noe e)))
theorem Fw.ne (w : Fw x Q s fs t) (i : Nat) {p : Nat × MObj} (h : fs[i]? = some p) : p.1 ≠ x := xne w.xl (w.own i h)
theorem Fw.ext (w : Fw x Q s fs t) {a : Nat} {o : MObj} (h : s.objs a = o) (ha : a < s.next) (hx : a ≠ x) : t.objs a = o := (w.k a ha hx).trans h
theorem Fw.nw (w : Fw x Q s fs t) (o : MObj) : Fw x Q s ((t.next, o) :: fs) (nw t o) :=
 ⟨⟨Nat.le_succ_of_le w.n, fun k h n => (uN (nnl (lll h w.n))).trans (w.k k h n), q_of (uN (nnl w.x_lt)) w.q⟩, w.xl,
  fun p h => (lmc h).elim (fun e => e ▸ ⟨uS _ _ _, w.n, nls _⟩) fun h => have z := w.o p h; ⟨(uN (nnl z.2.2)).trans z.1, z.2.1, Nat.lt_succ_of_lt z.2.2⟩, .cons (fun p h => (nnl (w.o p h).2.2).symm) w.pw⟩
theorem mem_set {α : Type} {l : List α} {i : Nat} {a p : α} (h : p ∈ l.set i a) : p = a ∨ ∃ j, j ≠ i ∧ l[j]? = some p := by
 refine (List.mem_iff_getElem?.mp h).elim fun j e => ?_
 by_cases q : i = j
 ·subst q
  rw [List.getElem?_set_self'] at e
  cases hl : l[i]? with
  | none => rw [hl] at e; cases e
  | some _ => rw [hl] at e; cases e; exact .inl rfl
 ·rw [List.getElem?_set_ne q] at e
  exact .inr ⟨j, fun z => q z.symm, e⟩
theorem pw_set : ∀ {fs : List (Nat × MObj)} {i m : Nat} {o o' : MObj}, fs.Pairwise (fun p q => p.1 ≠ q.1) → fs[i]? = some (m, o) → (fs.set i (m, o')).Pairwise fun p q => p.1 ≠ q.1
 | [], i, _, _, _, _, h => by cases i <;> cases h
 | p :: fs, 0, m, o, o', d, h => by cases h; cases d with | cons a b => exact .cons a b
 | p :: fs, i + 1, m, o, o', d, h => by
  cases d with | cons a b =>
  exact .cons (fun q hq => (mem_set hq).elim (fun e => by rw [e]; exact a (m, o) (List.mem_of_getElem? h)) fun z => z.elim fun j z => a q (List.mem_of_getElem? z.2)) (pw_set b h)
theorem pw_ne : ∀ {fs : List (Nat × MObj)} {i j : Nat} {p q : Nat × MObj}, fs.Pairwise (fun p q => p.1 ≠ q.1) → fs[i]? = some p → fs[j]? = some q → j ≠ i → q.1 ≠ p.1
 | [], i, _, _, _, _, h, _, _ => by cases i <;> cases h
 | _ :: _, 0, 0, _, _, _, _, _, n => absurd rfl n
 | _ :: _, 0, _ + 1, _, _, .cons a _, h, h2, _ => by cases h; exact (a _ (List.mem_of_getElem? h2)).symm
 | _ :: _, _ + 1, 0, _, _, .cons a _, h, h2, _ => by cases h2; exact a _ (List.mem_of_getElem? h)
 | _ :: _, _ + 1, _ + 1, _, _, .cons _ b, h, h2, n => pw_ne b h h2 fun e => n (congrArg (· + 1) e)
theorem Fw.put (w : Fw x Q s fs t) (i : Nat) {m : Nat} {o : MObj} (h : fs[i]? = some (m, o)) (o' : MObj) : Fw x Q s (fs.set i (m, o')) (pt t m o') :=
 ⟨⟨w.n, fun k h1 n => (uN (nnl (lll h1 (w.own i h)))).trans (w.k k h1 n), q_of (uN (w.ne i h).symm) w.q⟩, w.xl,
  fun p hp => (mem_set hp).elim (fun e => e ▸ ⟨uS _ _ _, (w.o _ (List.mem_of_getElem? h)).2⟩) fun z => z.elim fun j z => have y := w.o p (List.mem_of_getElem? z.2); ⟨(uN (pw_ne w.pw h z.2 z.1)).trans y.1, y.2⟩, pw_set w.pw h⟩
theorem Fw.px (w : Fw x Q s fs t) {o' : MObj} (q : Q' o') : Fw x Q' s fs (pt t x o') :=
 ⟨⟨w.n, fun k h n => (uN n).trans (w.k k h n), q_of (uS t.objs x o') q⟩, w.xl, fun p hp => have y := w.o p hp; ⟨(uN (xne w.xl y.2.1)).trans y.1, y.2⟩, w.pw⟩
theorem Fw.mv (w : Fw x Q s fs t) (c : Mv x Q' t t') : Fw x Q' s fs t' :=
 ⟨w.toMv.trans c, w.xl, fun p hp => have y := w.o p hp; ⟨(c.k _ y.2.2 (xne w.xl y.2.1)).trans y.1, y.2.1, lll y.2.2 c.n⟩, w.pw⟩
theorem above_lt {n k : Nat} {f : Nat → MObj} (h : k < n) : above n f k = f k := if_pos h
theorem Fw.out (w : Fw x Q s fs t) {O : Nat → MObj} (hO : ∀ k, k < s.next → O k = t.objs k) : Mv x Q s ⟨t.next, above s.next O⟩ :=
 ⟨w.n, fun k h n => (above_lt h).trans ((hO k h).trans (w.k k h n)), q_of ((above_lt w.xl).trans (hO x w.xl)) w.q⟩
end
noncomputable def fzC (k : Nat) (v : MV) (acc : Option (List D × MSt)) : Option (List D × MSt) := acc.bind fun p => (frz k v p.2).map fun q => (q.1 :: p.1, q.2)
noncomputable def fzE (m : Nat) (p : List D × MSt) : D × MSt := (.lst p.1, ⟨p.2.next, upd p.2.objs m .gone⟩)
section
variable {s : MSt}
theorem frz_ref {k m : Nat} {l : List MV} {p : List D × MSt} (ho : s.objs m = .list l) (h : l.foldr (fzC k) (some ([], s)) = some p) : frz (k + 1) (.ref m) s = some (fzE m p) := by
 have e : frz (k + 1) (.ref m) s = match s.objs m with | .list l => (l.foldr (fzC k) (some ([], s))).map (fzE m) | _ => none := rfl
 rw [e, ho]; dsimp only; rw [h]; rfl
theorem frz_list {k : Nat} {l : List D} : (l.map MV.d).foldr (fzC (k + 1)) (some ([], s)) = some (l, s) := by
 induction l with
 | nil => rfl
 | cons d l ih => exact (congrArg (fzC (k + 1) (.d d)) ih).trans rfl
theorem frz_lst {k m : Nat} {l : List D} (ho : s.objs m = .list (l.map .d)) : frz (k + 2) (.ref m) s = some (.lst l, pt s m .gone) := frz_ref ho frz_list
theorem hb_of {n : Nat} {v : MV} {p : D × MSt} (h : frz 6 v s = some p) : handBack n v s = .ok (.d p.1) ⟨p.2.next, above n p.2.objs⟩ := by unfold handBack; rw [h]
theorem frz_pair {m m2 : Nat} {d : D} {l : List D} (ho : s.objs m = .list [.d d, .ref m2]) (h2 : s.objs m2 = .list (l.map .d)) : frz 6 (.ref m) s = some (.lst [d, .lst l], pt (pt s m2 .gone) m .gone) :=
 frz_ref (p := ([d, .lst l], pt s m2 .gone)) ho (by
  show fzC 5 (.d d) (fzC 5 (.ref m2) (some ([], s))) = _
  have e : fzC 5 (.ref m2) (some ([], s)) = some ([.lst l], pt s m2 .gone) := congrArg (Option.map fun q : D × MSt => ([q.1], q.2)) (frz_lst (k := 3) h2)
  rw [e]; rfl)
end
noncomputable def exv (c : Cfg) (sc : Scope) (b : List Stmt) (le : LEnv) : M MV := M.bind (exs c sc b le) fun p => M.pure (flV p.1)
def Ends (a n : Nat) (args : List MV) (s : MSt) (v : MV) (t : MSt) : Prop := callN T0 KK (n + 1) a args s = M.bind (fun _ => O.ok v t) (retM (T0.keep a) s.next) s
noncomputable def fA (a : Nat) : List Str := ((T0.fn a).map (·.params)).getD []
section
variable {a n : Nat} {args : List MV} {s s1 t : MSt} {v : MV} {c : Cfg} {sc : Scope} {b : List Stmt} {E : EL} {le le1 : LEnv} {o : O MV}
theorem Ends.tr (tr : Tr MV s (.ok v t)) (e : tr.on (fnP T0 KK n a args) = tr.ops) : Ends a n args s v t := run tr e
theorem xv_run (t : Tr MV s o) (h : t.on (exsP c sc b E fun fl _ => .ret (flV fl)) = t.ops) : exv c sc b (lk E) s = o := by
 have z := xs_p (φ := id) (c := c) b sc E (g := fun fl _ => .ret (flV fl)) (K := fun p => M.pure (flV p.1)) (fun fl E => Sd.ret fun _ => rfl) (t.ok _ h)
 exact z.trans (by cases o <;> rfl)
theorem exs_app : ∀ (b1 b2 : List Stmt) (le : LEnv), exs c sc (b1 ++ b2) le = M.bind (exs c sc b1 le) fun p => goOn p (exs c sc b2)
 | [], _, _ => rfl
 | st :: b1, b2, le => by
  show M.bind (ex c sc st le) (fun p => goOn p (exs c sc (b1 ++ b2))) = M.bind (M.bind (ex c sc st le) fun p => goOn p (exs c sc b1)) fun p => goOn p (exs c sc b2)
  rw [bind_assoc]
  refine congrArg (M.bind (ex c sc st le)) (funext fun p => ?_)
  cases p with | mk fl le =>
  cases fl with
  | next => exact exs_app b1 b2 le
  | ret v => rfl
theorem xv_then (k : Nat) (h : exs c sc (b.take k) le s = .ok (.next, le1) s1) (h2 : exv c sc (b.drop k) le1 s1 = o) : exv c sc b le s = o := by
 have e : exs c sc b le = M.bind (exs c sc (b.take k) le) fun p => goOn p (exs c sc (b.drop k)) := (congrArg (fun b => exs c sc b le) (List.take_append_drop k b).symm).trans (exs_app _ _ _)
 rw [← h2]
 unfold exv
 rw [e, bind_assoc, bind_ok h]; rfl
theorem Ends.xv (h : exv (cN KK n) (fS a) (fB a) (lk ((fA a).zip args)) s = .ok v t) (hp : ((T0.fn a).map fun m => decide (m.params.length = args.length)) = some true := by rfl) : Ends a n args s v t := by
 have e : callN T0 KK (n + 1) a args s = (match T0.fn a with | none => .bad | some mf => if mf.params.length = args.length then M.bind (exs ⟨T0, KK, callN T0 KK n⟩ mf.scope mf.body (zipEnv mf.params args)) (fun p => retM (T0.keep a) s.next (flV p.1)) s else .bad) := rfl
 unfold Ends
 rw [e]
 unfold exv fS fB fA at h
 cases hf : T0.fn a with
 | none => rw [hf] at hp; cases hp
 | some mf =>
  rw [hf] at hp h
  dsimp only [Option.map_some, Option.getD_some] at hp h ⊢
  rw [if_pos (of_decide_eq_true (Option.some.inj hp)), lk_zip]
  have z := congrFun (bind_assoc (exs ⟨T0, KK, callN T0 KK n⟩ mf.scope mf.body (lk (mf.params.zip args))) (fun p => M.pure (flV p.1)) (retM (T0.keep a) s.next)) s
  refine Eq.trans z.symm ?_
  unfold M.bind at h ⊢
  rw [h]
end
section
variable {α : Type} {f : α → MV} {x n a : Nat} {Q : MObj → Prop} {args : List MV} {P : α → Prop} {s s0 t : MSt} {fs : List (Nat × MObj)}
theorem Fw.nD (w : Fw x Q s0 fs t) (z : α) (p : P z) {d : D} (h : Ends a n args s (.d d) t) (hd : f z = .d d := by rfl) (hk : T0.keep a = false := by rfl) (hn : s.next = s0.next := by rfl) : Cal f (cl (n + 1) a args s) x Q s0 P :=
 ⟨z, _, Eq.trans h (by rw [hk, hd, hn]; rfl), w.out fun _ _ => rfl, p⟩
theorem Fw.nL (w : Fw x Q s0 fs t) (z : α) (p : P z) (i : Nat) {m : Nat} {l : List D} (h : fs[i]? = some (m, .list (l.map .d))) (e : Ends a n args s (.ref m) t) (hd : f z = .d (.lst l) := by rfl) (hk : T0.keep a = false := by rfl) (hn : s.next = s0.next := by rfl) : Cal f (cl (n + 1) a args s) x Q s0 P :=
 ⟨z, _, Eq.trans e (by rw [hk, hd, hn]; exact hb_of (frz_lst (k := 4) (w.g i h))), w.out fun _ q => uN (nnl (lll q (w.own i h))), p⟩
theorem Fw.nP (w : Fw x Q s0 fs t) (z : α) (p : P z) (i j : Nat) {m m2 : Nat} {d : D} {l : List D} (h : fs[i]? = some (m, .list [.d d, .ref m2])) (h2 : fs[j]? = some (m2, .list (l.map .d))) (e : Ends a n args s (.ref m) t) (hd : f z = .d (.lst [d, .lst l]) := by rfl) (hk : T0.keep a = false := by rfl) (hn : s.next = s0.next := by rfl) : Cal f (cl (n + 1) a args s) x Q s0 P :=
 ⟨z, _, Eq.trans e (by rw [hk, hd, hn]; exact hb_of (frz_pair (w.g i h) (w.g j h2))), w.out fun _ q => (uN (nnl (lll q (w.own i h)))).trans (uN (nnl (lll q (w.own j h2)))), p⟩
theorem Fw.rD (w : Fw x Q s0 fs t) (z : α) (p : P z) {d : D} (tr : Tr MV s (.ok (.d d) t)) (e : tr.on (fnP T0 KK n a args) = tr.ops) (hd : f z = .d d := by rfl) (hk : T0.keep a = false := by rfl) (hn : s.next = s0.next := by rfl) : Cal f (cl (n + 1) a args s) x Q s0 P := w.nD z p (.tr tr e) hd hk hn
theorem Fw.rL (w : Fw x Q s0 fs t) (z : α) (p : P z) (i : Nat) {m : Nat} {l : List D} (h : fs[i]? = some (m, .list (l.map .d))) (tr : Tr MV s (.ok (.ref m) t)) (e : tr.on (fnP T0 KK n a args) = tr.ops) (hd : f z = .d (.lst l) := by rfl) (hk : T0.keep a = false := by rfl) (hn : s.next = s0.next := by rfl) : Cal f (cl (n + 1) a args s) x Q s0 P := w.nL z p i h (.tr tr e) hd hk hn
theorem Fw.rP (w : Fw x Q s0 fs t) (z : α) (p : P z) (i j : Nat) {m m2 : Nat} {d : D} {l : List D} (h : fs[i]? = some (m, .list [.d d, .ref m2])) (h2 : fs[j]? = some (m2, .list (l.map .d))) (tr : Tr MV s (.ok (.ref m) t)) (e : tr.on (fnP T0 KK n a args) = tr.ops) (hd : f z = .d (.lst [d, .lst l]) := by rfl) (hk : T0.keep a = false := by rfl) (hn : s.next = s0.next := by rfl) : Cal f (cl (n + 1) a args s) x Q s0 P := w.nP z p i j h h2 (.tr tr e) hd hk hn
end
noncomputable def stAt (f i : Nat) : Stmt := ((fB f)[i]?).getD (.Pass default)
noncomputable def vOf : Stmt → Expr
 | .Return o _ => o.getD default
 | .Assign _ v _ => v
 | .Expr v _ => v
 | _ => default
noncomputable def rOf : Expr → Expr
 | .BinOp _ _ r _ => r
 | e => e
noncomputable def aOf : Expr → Expr
 | .Call _ as _ _ => (as[0]?).getD default
 | e => e
noncomputable def cpE : Expr → Expr
 | .ListComp e _ _ _ => e
 | e => e
noncomputable def cpS : Expr → Scope
 | .ListComp _ _ s _ => s
 | _ => default
section
variable {c : Cfg} {e : Expr} {cs : Scope} {E : EL} {y : Str} {iv : MV} {x : Nat} {Q : MObj → Prop} {α β : Type} {g : α → D} {h : β → D} {R : α → β → Prop} {t t0 : MSt}
inductive Cps (m : M MV) (h : β → D) (t : MSt) (x : Nat) (Q : MObj → Prop) (t0 : MSt) (P : List β → Prop) : Prop
 | mk (bs : List β) (t' : MSt) (e : m t = .ok (.ref t'.next) (nw t' (.list ((bs.map h).map .d)))) (m : Mv x Q t0 t') (p : P bs)
theorem Mv.lt (m : Mv x Q t t0) (h : x < t.next) : x < t0.next := lll h m.n
theorem ga_run {f : MV → M MV} (step : ∀ a u, x < u.next → Q (u.objs x) → Cal (fun b => .d (h b)) (f (.d (g a)) u) x Q u (R a)) : ∀ (l : List α) (t : MSt), x < t.next → Q (t.objs x) → ∃ (bs : List β) (t' : MSt), gather f ((l.map g).map .d) t = .ok ((bs.map h).map .d) t' ∧ Mv x Q t t' ∧ All2 R l bs
 | [], t, _, q => ⟨[], t, rfl, .refl q, .nil⟩
 | a :: l, t, xl, q => (step a t xl q).elim fun b t1 e1 m1 r => (ga_run step l t1 (m1.lt xl) m1.q).elim fun bs z => z.elim fun t2 z =>
  ⟨b :: bs, t2, (bind_ok e1).trans (bind_ok z.1), m1.trans z.2.1, .cons r z.2.2⟩
theorem cp_run {l : List α} (hf : frz 6 iv t = some (.lst (l.map g), t0)) (xl : x < t0.next) (q : Q (t0.objs x)) (hl : l.length ≤ cap) (step : ∀ a u, x < u.next → Q (u.objs x) → Cal (fun b => .d (h b)) (ev c e cs (lk (cE cs E y (.d (g a)))) u) x Q u (R a)) :
  Cps (cpM c e cs E y iv) h t x Q t0 (All2 R l) := by
 refine (ga_run (f := fun v => (evt c e cs (lk (cE cs E y v))).1) step l t0 xl q).elim fun bs z => z.elim fun t' z => ⟨bs, t', ?_, z.2.1, z.2.2⟩
 have e1 : frzM iv t = .ok (l.map g) t0 := by unfold frzM; rw [hf]
 have e2 : noExc (gather (fun v => (evt c e cs (lk (cE cs E y v))).1) ((l.map g).map .d)) t0 = .ok ((bs.map h).map .d) t' := by unfold noExc; rw [z.1]
 unfold cpM
 rw [bind_ok e1, bind_ok e2]
 exact mkl (by rw [llm, llm, ← All2.length l z.2.2]; exact hl)
theorem Cps.elim {m : M MV} {P : List β → Prop} {G : Prop} (c : Cps m h t x Q t0 P) (k : ∀ bs t', m t = .ok (.ref t'.next) (nw t' (.list ((bs.map h).map .d))) → Mv x Q t0 t' → P bs → G) : G := by
 cases c with | mk bs t' e m p => exact k bs t' e m p
end
theorem le_cap {n : Nat} (h : Nat.ble n cap = true) : n ≤ cap := lbe h
theorem lof_d {s : MSt} (l : List D) : lOf (.d (.lst l)) s = some (l.map .d) := rfl
noncomputable abbrev dI (i : Int) : MV := .d (.int i)
noncomputable abbrev dS (l : List Nat) : MV := .d (.str l)
end
section
open PySem
noncomputable def src (a b : Int) : MObj := .list [.d (.int a), .d (.int b)]
def IsSrc (o : MObj) : Prop := ∃ a b, o = src a b
section
variable {s : MSt} {n : Nat}
theorem gi0 {m : Nat} {x : MV} {l : List MV} (ho : s.objs m = .list (x :: l)) : getItem (.ref m) (.d (.int 0)) s = .ok x s := gi_ref ho (by decide) rfl
theorem gi1 {m : Nat} {x y : MV} {l : List MV} (ho : s.objs m = .list (x :: y :: l)) : getItem (.ref m) (.d (.int 1)) s = .ok y s := gi_ref ho (by decide) rfl
theorem ty_int (i : Int) : callTyp "int" [.d (.int i)] s = .ok (.d (.int i)) s := rfl
theorem two {k : Nat} {a b : MV} (h : k < 2 := by decide) : 0 ≤ (k : Int) ∧ (k : Int).toNat < [a, b].length ∧ [a, b].length ≤ cap := ⟨Int.natCast_nonneg k, h, (by decide : 2 ≤ cap)⟩
theorem small_lit {x y : Int} (h : small y = true) : (small x || small y) = true := (congrArg (small x || ·) h).trans (Bool.or_true _)
theorem mod_small (x : Int) : small (x % 2147483647) = true := by
 have h1 := Int.emod_nonneg x (b := 2147483647) (by decide)
 have h2 := Int.emod_lt_of_pos x (b := 2147483647) (by decide)
 unfold small
 rw [decide_eq_true (Int.lt_of_lt_of_le (by decide : -(2 ^ 64) < (0 : Int)) h1), decide_eq_true (Int.lt_trans h2 (by decide))]; rfl
theorem sm_lower {l : List Nat} (ha : ascii l = true) (h : l.length ≤ cap) : strMeth .lower l [] s = .ok (dS (lowerA l)) s := by
 show ifA l (mkStr (lowerA l)) s = _
 unfold ifA; rw [if_pos ha]; exact mks (by rw [lowerA, llm]; exact h)
theorem sm_upper {l : List Nat} (ha : ascii l = true) (h : l.length ≤ cap) : strMeth .upper l [] s = .ok (dS (upperA l)) s := by
 show ifA l (mkStr (upperA l)) s = _
 unfold ifA; rw [if_pos ha]; exact mks (by rw [upperA, llm]; exact h)
theorem sm_upper_e {l r : List Nat} (ha : ascii l = true) (h : l.length ≤ cap) (e : upperA l = r) : strMeth .upper l [] s = .ok (dS r) s := e ▸ sm_upper ha h
theorem sm_repl {l : List Nat} {q : Nat} (h : l.length ≤ cap ∧ (repl1 q [q, q] l).length ≤ cap) : strMeth .replace l [dS [q], dS [q, q]] s = .ok (dS (repl1 q [q, q] l)) s := by
 show (if [q, q] = [q, q] ∧ l.length ≤ cap then mkStr (repl1 q [q, q] l) else M.bad) s = _
 rw [if_pos ⟨rfl, h.1⟩]; exact mks h.2
theorem gs_s {l : List Nat} {lo hi : Option D} {a b : Option Nat} (h1 : bound lo = some a) (h2 : bound hi = some b) (h : l.length ≤ cap) : getSlice (dS l) lo hi s = .ok (dS (cut l a b)) s := by
 unfold getSlice; rw [h1, h2]
 show (if l.length ≤ cap then M.pure (dS (cut l a b)) else M.bad) s = _
 rw [if_pos h]; rfl
theorem gs_l {o : MV} {l : List MV} {lo hi : Option D} {a b : Option Nat} (ho : lOf o s = some l) (h1 : bound lo = some a) (h2 : bound hi = some b) (h : l.length ≤ cap) (e : o.str? = none := by rfl) : getSlice o lo hi s = .ok (.ref s.next) (nw s (.list (cut l a b))) := by
 unfold getSlice; rw [h1, h2]
 show sliceOf o a b s = _
 unfold sliceOf; rw [e]
 show (match lOf o s with | some l => if l.length ≤ cap then mkList (cut l a b) s else .bad | none => .bad) = _
 rw [ho]; dsimp only; rw [if_pos h]
 refine mkl (nlt ?_ h)
 unfold cut
 rw [List.length_drop]
 cases b with
 | none => exact Nat.sub_le ..
 | some b => exact nlt (Nat.sub_le ..) (List.length_take_le' ..)
theorem take_gen {top : Int} (ht : 0 < top ∧ top < 2 ^ 62) (xl : 0 < s.next) (q : IsSrc (s.objs 0)) : Cal dI (cl (n + 1) 855 [.ref 0, .d (.int top)] s) 0 IsSrc s fun i => 0 ≤ i ∧ i < top := by
 refine q.elim fun a z => z.elim fun b h0 => ?_
 have w := Fw.start xl q
 have rng (z : Int) : 0 ≤ z % top ∧ z % top < top := ⟨Int.emod_nonneg _ (Int.ne_of_gt ht.1), Int.emod_lt_of_pos _ ht.1⟩
 by_cases ha : 0 < a
 ·exact (w.px ⟨a / top, b, rfl⟩).rD (a % top) (rng a) (Tr.v (gi0 h0) <| Tr.v (gt_t ha) <| Tr.v (gi0 h0) <| Tr.v (ty_int a) <| Tr.v (modi (x := a) ht.1) <| Tr.v (gi0 h0) <| Tr.v (divi (x := a) ht) <| Tr.v (si_ref (k := (0 : Nat)) (x := .d (.int (a / top))) h0 two) <| Tr.ret _) (by kernel_rfl)
 ·let b' := (b * 39373 + 7) % 2147483647
  have h1 : (pt s 0 (src a b')).objs 0 = src a b' := uS s.objs 0 (src a b')
  exact (w.px ⟨a, b', rfl⟩).rD (b' * b' % 2147483629 / 32 % top) (rng _) (Tr.v (gi0 h0) <| Tr.v (gt_f ha) <| Tr.v (gi1 h0) <| Tr.v (muli (x := b) (y := 39373) (small_lit (by decide))) <| Tr.v (ty_int (b * 39373 + 7)) <| Tr.v (modi (x := b * 39373 + 7) (y := 2147483647) (by decide)) <| Tr.v (si_ref (k := (1 : Nat)) (x := .d (.int b')) h0 two) <| Tr.v (gi1 h1) <| Tr.v (gi1 h1) <| Tr.v (muli (x := b') (y := b') (small_lit (mod_small _))) <| Tr.v (ty_int (b' * b')) <| Tr.v (modi (x := b' * b') (y := 2147483629) (by decide)) <| Tr.v (divi (x := b' * b' % 2147483629) (y := 32) (by decide)) <| Tr.v (ty_int (b' * b' % 2147483629 / 32)) <| Tr.v (modi (x := b' * b' % 2147483629 / 32) ht.1) <| Tr.ret _) (by kernel_rfl)
end
abbrev Kw := { w : List Nat // w ∈ keys16 }
noncomputable section
noncomputable def SD (ws : List (List Nat)) : List D := ws.map .str
noncomputable def SL (ws : List (List Nat)) : List MV := (SD ws).map .d
noncomputable abbrev KL (ks : List Kw) : List MV := (ks.map fun k => D.str k.1).map .d
noncomputable abbrev KT (ks : List Kw) : List Tk := ks.map fun k => .key k.1
noncomputable abbrev dW (ws : List (List Nat)) : MV := .d (.lst (SD ws))
noncomputable abbrev dBW {α : Type} (g : α → D) (p : α × List (List Nat)) : MV := .d (.lst [g p.1, .lst (SD p.2)])
theorem SL_app (x y : List (List Nat)) : SL x ++ SL y = SL (x ++ y) := by unfold SL SD; rw [List.map_append, List.map_append]
theorem SL_len (x : List (List Nat)) : (SL x).length = x.length := by unfold SL SD; rw [llm, llm]
theorem SL_cut (x : List (List Nat)) (a b : Option Nat) : cut (SL x) a b = SL (cut x a b) := by
 unfold cut SL SD
 cases b <;> simp only [List.map_drop, List.map_take]
section
variable {s : MSt} {n : Nat}
theorem lof_w (x : List (List Nat)) : lOf (dW x) s = some (SL x) := rfl
theorem addw {a b : MV} {x y : List (List Nat)} (ha : lOf a s = some (SL x)) (hb : lOf b s = some (SL y)) (h : (x ++ y).length ≤ cap) (e : a.str? = none := by rfl) : addS a b s = .ok (.ref s.next) (nw s (.list (SL (x ++ y)))) := by
 rw [← SL_app]; exact addl ha hb (by rw [SL_app, SL_len]; exact h) e
theorem addw_e {a b : MV} {x y z : List (List Nat)} (ha : lOf a s = some (SL x)) (hb : lOf b s = some (SL y)) (e : x ++ y = z) (h : z.length ≤ cap) (e2 : a.str? = none := by rfl) : addS a b s = .ok (.ref s.next) (nw s (.list (SL z))) := by
 subst e; exact addw ha hb h e2
theorem gsw {o : MV} {x : List (List Nat)} {lo hi : Option D} {a b : Option Nat} (ho : lOf o s = some (SL x)) (h1 : bound lo = some a) (h2 : bound hi = some b) (h : x.length ≤ cap) (e : o.str? = none := by rfl) : getSlice o lo hi s = .ok (.ref s.next) (nw s (.list (SL (cut x a b)))) := by
 rw [← SL_cut]; exact gs_l ho h1 h2 (by rw [SL_len]; exact h) e
theorem gsw_e {o : MV} {x z : List (List Nat)} {lo hi : Option D} {a b : Option Nat} (ho : lOf o s = some (SL x)) (h1 : bound lo = some a) (h2 : bound hi = some b) (e : cut x a b = z) (h : x.length ≤ cap) (e2 : o.str? = none := by rfl) : getSlice o lo hi s = .ok (.ref s.next) (nw s (.list (SL z))) := by
 subst e; exact gsw ho h1 h2 h e2
theorem app_e {m : Nat} {l l' : List MV} {v : MV} (ho : s.objs m = .list l) (h : l.length < cap) (e : l ++ [v] = l') : on1 (appM m) [v] s = .ok (.d .none) (pt s m (.list l')) := by
 rw [← e]; exact app_r ho h
theorem one_run {m : Nat} {l : List MV} {G : Prop} (xl : 0 < s.next) (q : IsSrc (s.objs 0)) (ho : s.objs m = .list l) (hm : m < s.next) (hm0 : m ≠ 0) (h1 : 0 < l.length ∧ l.length ≤ 100)
  (k : ∀ x s1, x ∈ l → Mv 0 IsSrc s s1 → cl (n + 2) 862 [.ref 0, .ref m] s = handBack s.next x s1 → G) : G := by
 refine (take_gen (n := n) (top := l.length) ⟨Int.ofNat_lt.mpr h1.1, Int.lt_of_le_of_lt (Int.ofNat_le.mpr h1.2) (by decide)⟩ xl q).elim fun i s1 e1 m1 p1 => ?_
 have hi : i.toNat < l.length := Int.ofNat_lt.mp ((Int.toNat_of_nonneg p1.1).symm ▸ p1.2)
 have hk : 0 ≤ i ∧ i < 2 ^ 62 := ⟨p1.1, Int.lt_of_lt_of_le p1.2 (Int.le_trans (Int.ofNat_le.mpr h1.2) (by decide))⟩
 exact k _ s1 (List.getElem_mem hi) m1 (run (Tr.v (len_ref ho (nlt h1.2 (by decide))) <| Tr.v e1 <| Tr.v (gi_ref (k := i) ((Fw.start xl q).mv m1 |>.ext ho hm hm0) hk (List.getElem?_eq_getElem hi)) <| Tr.ret _) (by kernel_rfl))
theorem one_gen {m : Nat} {ds : List D} (xl : 0 < s.next) (q : IsSrc (s.objs 0)) (ho : s.objs m = .list (ds.map .d)) (hm : m < s.next) (hm0 : m ≠ 0) (h1 : 0 < ds.length ∧ ds.length ≤ 100) : Cal MV.d (cl (n + 2) 862 [.ref 0, .ref m] s) 0 IsSrc s (· ∈ ds) :=
 one_run xl q ho hm hm0 (by rw [llm]; exact h1) fun x s1 hx m1 e => (List.mem_map.mp hx).elim fun d z => ⟨d, _, by rw [e, ← z.2]; rfl, ((Fw.start xl q).mv m1).out fun _ _ => rfl, z.1⟩
theorem one_str {m : Nat} {ws : List (List Nat)} (xl : 0 < s.next) (q : IsSrc (s.objs 0)) (ho : s.objs m = .list (SL ws)) (hm : m < s.next) (hm0 : m ≠ 0) (h1 : 0 < ws.length ∧ ws.length ≤ 100) : Cal dS (cl (n + 2) 862 [.ref 0, .ref m] s) 0 IsSrc s (· ∈ ws) :=
 (one_gen xl q ho hm hm0 (by rw [SD, llm]; exact h1)).elim fun d s1 e m1 hd => (List.mem_map.mp hd).elim fun w z => ⟨w, s1, by rw [e, ← z.2], m1, z.1⟩
end
end
section
variable {s : MSt} {n : Nat}
theorem app_cap {α : Type} {x y : List α} {a b : Nat} (h : x.length ≤ a) (h2 : y.length ≤ b) (h3 : Nat.ble (a + b) cap = true := by rfl) : (x ++ y).length ≤ cap := by
 rw [lla]; exact nlt (Nat.add_le_add h h2) (lbe h3)
theorem len_app {α : Type} {x y : List α} {a b : Nat} (h : x.length ≤ a) (h2 : y.length ≤ b) : (x ++ y).length ≤ a + b := by
 rw [lla]; exact Nat.add_le_add h h2
theorem to_cap {α : Type} {x : List α} {a : Nat} (h : x.length ≤ a) (h3 : Nat.ble a cap = true := by rfl) : x.length ≤ cap := nlt h (lbe h3)
theorem ascii_drop {w : List Nat} (h : ascii w = true) (k : Nat) : ascii (w.drop k) = true := List.all_eq_true.mpr fun x hx => List.all_eq_true.mp h x (List.mem_of_mem_drop hx)
theorem key_in {k v : List Nat} (h : v ∈ [k, k, lowerA k, k.take 1 ++ lowerA (k.drop 1)]) : KF k v := (lmc h).elim .inl fun h => (lmc h).elim .inl fun h => .inr ((lmc h).imp id List.mem_singleton.mp)
noncomputable def anyS (w : List Nat) (l : List (List Nat)) : Bool := l.any fun y => decide (w = y)
theorem anyS_mem {w : List Nat} {l : List (List Nat)} (h : anyS w l = true) : w ∈ l := (List.any_eq_true.mp h).elim fun y z => (of_decide_eq_true z.2) ▸ z.1
theorem strsD_SD : ∀ l : List (List Nat), strsD (SD l) = some l
 | [] => rfl
 | w :: l => congrArg (Option.map (w :: ·)) (strsD_SD l)
theorem name_cap {k : List Nat} {q : Nat} (h : k.length ≤ 8) (h2 : (repl1 q [q, q] k).length ≤ 30) : k.length ≤ cap ∧ (repl1 q [q, q] k).length ≤ cap := ⟨to_cap h, to_cap h2⟩
theorem key_gen (k : Kw) (xl : 0 < s.next) (q : IsSrc (s.objs 0)) : Cal dS (cl (n + 3) 869 [.ref 0, .d (.str k.1)] s) 0 IsSrc s fun w => Wr w [.key k.1] := by
 have z := key_ok k.2
 have w0 := Fw.start xl q
 have w1 := w0.nw (.list (SL [k.1, k.1, lowerA k.1, k.1.take 1 ++ lowerA (k.1.drop 1)]))
 refine (one_str (n := n) w1.x_lt w1.q (w1.g 0 rfl) (w1.lt 0 rfl) (w1.ne 0 rfl) ⟨Nat.zero_lt_succ _, lbe rfl⟩).elim fun v s1 e1 m1 p1 => ?_
 have w2 := w1.mv m1
 have ha := z.1.1
 have hl := to_cap z.1.2
 have ha1 := ascii_drop z.1.1 1
 have hl1 : (k.1.drop 1).length ≤ 20 := by rw [List.length_drop]; exact nlt (Nat.sub_le ..) z.1.2
 have hl1' := to_cap hl1
 have hl2 : (k.1.take 1 ++ lowerA (k.1.drop 1)).length ≤ cap := app_cap (nlt (List.length_take_le' ..) z.1.2) (by rw [lower_len]; exact hl1)
 refine w2.rD v (z.2 v (key_in p1)) (Tr.v (sm_lower (l := (k.val)) ha hl) <| Tr.v (gs_s (l := (k.val)) (lo := none) (hi := (some (.int 1))) rfl rfl hl) <| Tr.v (gs_s (l := (k.val)) (lo := (some (.int 1))) (hi := none) rfl rfl hl) <| Tr.v (sm_lower (l := (cut k.val (some (Int.toNat 1)) none)) ha1 hl1') <| Tr.v (adds (x := (cut k.val none (some (Int.toNat 1)))) (y := (lowerA (cut k.val (some (Int.toNat 1)) none))) hl2) <| Tr.v (mkl (l := (SL [k.val, k.val, lowerA k.val, List.take 1 k.val ++ lowerA (List.drop 1 k.val)])) (lbe rfl)) <| Tr.v (e1) <| Tr.ret _) (by kernel_rfl)
theorem bare_any {k : List Nat} (b : Bool) (h : anyS k bare4 = b) : strEqAny k (SD bare4) = some b := by
 subst h; exact (congrArg (Option.map fun ys => List.any ys fun y => decide (k = y)) (strsD_SD bare4)).trans rfl
theorem named_gen {k : List Nat} (hk : k ∈ names11) (xl : 0 < s.next) (q : IsSrc (s.objs 0)) : Cal dS (cl (n + 2) 876 [.ref 0, .d (.str k)] s) 0 IsSrc s fun w => Wr w [.free k] := by
 have z := name_ok hk
 have w0 := Fw.start xl q
 refine (take_gen (n := n) (top := 6) (by decide) xl q).elim fun i s1 e1 m1 p1 => ?_
 have w1 := w0.mv m1
 have l0 := z.1.1
 have l1 := name_cap l0 z.1.2.1
 have l2 := name_cap l0 z.1.2.2
 have l3 : ([91] ++ k).length ≤ cap := app_cap (a := 1) (nlr _) l0
 have l4 : ([91] ++ k ++ [93]).length ≤ cap := app_cap (b := 1) (len_app (a := 1) (nlr _) l0) (nlr _)
 have l5 (c : Nat) : ([c] ++ [c]).length ≤ cap := lbe rfl
 have l6 (c : Nat) {y : List Nat} (h : y.length ≤ 30) : ([c] ++ y).length ≤ cap := app_cap (a := 1) (nlr _) h
 have l7 (c : Nat) {y : List Nat} (h : y.length ≤ 30) : ([c] ++ y ++ [c]).length ≤ cap := app_cap (b := 1) (len_app (a := 1) (nlr _) h) (nlr _)
 have h5 := l5 34
 have h6 := l6 34 z.1.2.1
 have h7 := l7 34 z.1.2.1
 have dq : Wr ([34] ++ repl1 34 [34, 34] k ++ [34]) [.free k] := z.2 _ (.inr (.inr (.inr rfl)))
 by_cases h : i < 3
 ·have w2 := w1.nw (.list (SL bare4))
  cases hb : anyS k bare4 with
  | true =>
   have hb1 := bare_any true hb
   refine w2.rD k (z.2 _ (.inl ⟨rfl, anyS_mem hb⟩)) (Tr.v (e1) <| Tr.v (lt_t h) <| Tr.v (mkl (l := (SL bare4)) (lbe rfl)) <| Tr.v (in_l (w2.g 0 rfl) rfl hb1) <| Tr.ret _) (by kernel_rfl)
  | false =>
   have hb1 := bare_any false hb
   have i3 : ¬ i = 3 := fun e => absurd h (by rw [e]; decide)
   have i4 : ¬ i = 4 := fun e => absurd h (by rw [e]; decide)
   refine w2.rD ([34] ++ repl1 34 [34, 34] k ++ [34]) dq (Tr.v (e1) <| Tr.v (lt_t h) <| Tr.v (mkl (l := (SL bare4)) (lbe rfl)) <| Tr.v (in_l (w2.g 0 rfl) rfl hb1) <| Tr.v (eqi_f i3) <| Tr.v (eqi_f i4) <| Tr.v (adds (x := [34]) (y := [34]) h5) <| Tr.v (sm_repl (l := (k)) (q := 34) l1) <| Tr.v (adds (x := [34]) (y := (repl1 34 [34, 34] k)) h6) <| Tr.v (adds (x := ([34] ++ repl1 34 [34, 34] k)) (y := [34]) h7) <| Tr.ret _) (by kernel_rfl)
 ·by_cases h3 : i = 3
  ·subst h3
   cases h8 : isSub [93] k with
   | false => exact w1.rD ([91] ++ k ++ [93]) (z.2 _ (.inr (.inl ⟨rfl, h8⟩))) (Tr.v (e1) <| Tr.v (lt_f h) <| Tr.v (eqi_t (x := 3) (y := 3) (by decide)) <| Tr.v (ni_s h8) <| Tr.v (adds (x := [91]) (y := (k)) l3) <| Tr.v (adds (x := ([91] ++ k)) (y := [93]) l4) <| Tr.ret _) (by kernel_rfl)
   | true => exact w1.rD ([34] ++ repl1 34 [34, 34] k ++ [34]) dq (Tr.v (e1) <| Tr.v (lt_f h) <| Tr.v (eqi_t (x := 3) (y := 3) (by decide)) <| Tr.v (ni_s h8) <| Tr.v (eqi_f (x := 3) (y := 4) (by decide)) <| Tr.v (adds (x := [34]) (y := [34]) h5) <| Tr.v (sm_repl (l := (k)) (q := 34) l1) <| Tr.v (adds (x := [34]) (y := (repl1 34 [34, 34] k)) h6) <| Tr.v (adds (x := ([34] ++ repl1 34 [34, 34] k)) (y := [34]) h7) <| Tr.ret _) (by kernel_rfl)
  ·by_cases h4 : i = 4
   ·subst h4
    have g5 := l5 96
    have g6 := l6 96 z.1.2.2
    have g7 := l7 96 z.1.2.2
    exact w1.rD ([96] ++ repl1 96 [96, 96] k ++ [96]) (z.2 _ (.inr (.inr (.inl rfl)))) (Tr.v (e1) <| Tr.v (lt_f h) <| Tr.v (eqi_f h3) <| Tr.v (eqi_t (x := 4) (y := 4) (by decide)) <| Tr.v (adds (x := [96]) (y := [96]) g5) <| Tr.v (sm_repl (l := (k)) (q := 96) l2) <| Tr.v (adds (x := [96]) (y := (repl1 96 [96, 96] k)) g6) <| Tr.v (adds (x := ([96] ++ repl1 96 [96, 96] k)) (y := [96]) g7) <| Tr.ret _) (by kernel_rfl)
   ·exact w1.rD ([34] ++ repl1 34 [34, 34] k ++ [34]) dq (Tr.v (e1) <| Tr.v (lt_f h) <| Tr.v (eqi_f h3) <| Tr.v (eqi_f h4) <| Tr.v (adds (x := [34]) (y := [34]) h5) <| Tr.v (sm_repl (l := (k)) (q := 34) l1) <| Tr.v (adds (x := [34]) (y := (repl1 34 [34, 34] k)) h6) <| Tr.v (adds (x := ([34] ++ repl1 34 [34, 34] k)) (y := [34]) h7) <| Tr.ret _) (by kernel_rfl)
theorem name_gen (xl : 0 < s.next) (q : IsSrc (s.objs 0)) : Cal (fun z : Na => dS z.1) (cl (n + 3) 890 [.ref 0] s) 0 IsSrc s fun _ => True := by
 have w0 := Fw.start xl q
 have w1 := w0.nw (.list (SL names8))
 refine (one_str (n := n) w1.x_lt w1.q (w1.g 0 rfl) (w1.lt 0 rfl) (w1.ne 0 rfl) (by decide)).elim fun v s1 e1 m1 p1 => ?_
 have w2 := w1.mv m1
 exact w2.rD ⟨v, List.mem_append_left _ p1⟩ trivial (Tr.v (mkl (l := (SL names8)) (lbe rfl)) <| Tr.v (e1) <| Tr.ret _) (by kernel_rfl)
theorem ws_keys : ∀ (ks : List Kw) {ys : List (List Nat)}, All2 (fun k w => Wr w [.key k.1]) ks ys → Ws ys (KT ks)
 | [], _, e => by cases e; exact .nil
 | _ :: ks, _, .mk _ _ e a b => by cases e; exact .cons a (ws_keys ks b)
abbrev KR (k : Kw) (w : List Nat) : Prop := Wr w [.key k.1]
theorem keys_all {m : Nat} {ks : List Kw} (hl : ks.length ≤ cap) (xl : 0 < s.next) (q : IsSrc (s.objs 0)) (ho : s.objs m = .list (KL ks)) (hm0 : m ≠ 0) : Cal dW (cl (n + 4) 895 [.ref 0, .ref m] s) 0 IsSrc (pt s m .gone) (All2 KR ks) := by
 have q' := q_of (Q := IsSrc) (uN (f := s.objs) (o := .gone) (Ne.symm hm0)) q
 have w0 := Fw.start (s := pt s m .gone) xl q'
 refine (cp_run (c := cN KK (n + 3)) (e := cpE (vOf (stAt 895 0))) (cs := cpS (vOf (stAt 895 0))) (y := so "word") (E := [(so "source", .ref 0), (so "words", .ref m)]) (h := .str) (R := KR) (frz_lst (k := 4) ho) xl q' hl fun k u xl q =>
  (key_gen (n := n) k xl q).elim fun w s1 e1 m1 p1 => ⟨w, s1, ev_run (Tr.v e1 <| Tr.ret _) (by kernel_rfl), m1, p1⟩).elim fun ys s1 e1 m1 p1 => ?_
 have w1 := (w0.mv m1).nw (.list (SL ys))
 exact w1.rL ys p1 0 rfl (Tr.v e1 <| Tr.ret _) (by kernel_rfl)
theorem keys_gen {m : Nat} {ks : List Kw} (hl : ks.length ≤ cap) (xl : 0 < s.next) (q : IsSrc (s.objs 0)) (ho : s.objs m = .list (KL ks)) (hm0 : m ≠ 0) : Cal dW (cl (n + 4) 895 [.ref 0, .ref m] s) 0 IsSrc (pt s m .gone) fun ys => Ws ys (KT ks) ∧ ys.length = ks.length :=
 (keys_all hl xl q ho hm0).elim fun ys s1 e m p => ⟨ys, s1, e, m, ws_keys ks p, (All2.length _ p).symm⟩
noncomputable abbrev kDESC : Kw := ⟨cp "DESC", by decide⟩
noncomputable abbrev kASC : Kw := ⟨cp "ASC", by decide⟩
theorem turned_gen (xl : 0 < s.next) (q : IsSrc (s.objs 0)) : Cal (dBW .bool) (cl (n + 5) 902 [.ref 0] s) 0 IsSrc s (HasW DeT 1) := by
 have w0 := Fw.start xl q
 refine (take_gen (n := n+3) (top := 4) (by decide) xl q).elim fun i s1 e1 m1 p1 => ?_
 by_cases h : i = 1
 ·subst h
  have w2 := (w0.mv m1).nw (.list (KL [kDESC]))
  refine (keys_gen (n := n) (lbe rfl) w2.x_lt w2.q (w2.g 0 rfl) (w2.ne 0 rfl)).elim fun ys s2 e2 m2 p2 => ?_
  have w3 := (w2.put 0 rfl .gone).mv m2
  have w4 := w3.nw (.list [.d (.bool true), dW ys])
  exact w4.rL (true, ys) ⟨_, .d, p2.1, noe p2.2⟩ 0 rfl (Tr.v (e1) <| Tr.v (eqi_t (x := 1) (y := 1) (by decide)) <| Tr.v (eqi_f (x := 1) (y := 0) (by decide)) <| Tr.v (eqi_t (x := 1) (y := 1) (by decide)) <| Tr.v (mkl (l := (KL [kDESC])) (lbe rfl)) <| Tr.v (e2) <| Tr.v (mkl (l := ([MV.d (D.bool true), dW ys])) (lbe rfl)) <| Tr.ret _) (by kernel_rfl)
 ·by_cases h0 : i = 0
  ·subst h0
   have w2 := (w0.mv m1).nw (.list (KL [kASC]))
   refine (keys_gen (n := n) (lbe rfl) w2.x_lt w2.q (w2.g 0 rfl) (w2.ne 0 rfl)).elim fun ys s2 e2 m2 p2 => ?_
   have w3 := (w2.put 0 rfl .gone).mv m2
   have w4 := w3.nw (.list [.d (.bool false), dW ys])
   exact w4.rL (false, ys) ⟨_, .a, p2.1, noe p2.2⟩ 0 rfl (Tr.v (e1) <| Tr.v (eqi_f h) <| Tr.v (eqi_t (x := 0) (y := 0) (by decide)) <| Tr.v (mkl (l := (KL [kASC])) (lbe rfl)) <| Tr.v (e2) <| Tr.v (mkl (l := ([MV.d (D.bool false), dW ys])) (lbe rfl)) <| Tr.ret _) (by kernel_rfl)
  ·have w2 := (w0.mv m1).nw (.list (KL []))
   refine (keys_gen (n := n) (lbe rfl) w2.x_lt w2.q (w2.g 0 rfl) (w2.ne 0 rfl)).elim fun ys s2 e2 m2 p2 => ?_
   have w3 := (w2.put 0 rfl .gone).mv m2
   have w4 := w3.nw (.list [.d (.bool false), dW ys])
   exact w4.rL (false, ys) ⟨_, .n, p2.1, Nat.le_succ_of_le (noe p2.2)⟩ 0 rfl (Tr.v (e1) <| Tr.v (eqi_f h) <| Tr.v (eqi_f h0) <| Tr.v (eqi_f h) <| Tr.v (mkl (l := (KL [])) (lbe rfl)) <| Tr.v (e2) <| Tr.v (mkl (l := ([MV.d (D.bool false), dW ys])) (lbe rfl)) <| Tr.ret _) (by kernel_rfl)
end
section
variable {s t : MSt} {n : Nat}
theorem Mv.pt {x m : Nat} {Q : MObj → Prop} {o : MObj} (h : s.objs m = o) (c : Mv x Q s t) : Mv x Q (pt s m o) t :=
 ⟨c.n, fun k h1 n => (c.k k h1 n).trans ((Classical.em (k = m)).elim (fun e => by rw [e, h]; exact (uS ..).symm) fun e => (uN e).symm), c.q⟩
theorem Mv.both {x m : Nat} {Q : MObj → Prop} {o : MObj} (h : m ≠ x) (c : Mv x Q s t) : Mv x Q (Mine.pt s m o) (Mine.pt t m o) :=
 ⟨c.n, fun k h1 n => (Classical.em (k = m)).elim (fun e => by rw [e]; exact (uS ..).trans (uS ..).symm) fun e => (uN e).trans ((c.k k h1 n).trans (uN e).symm), q_of (uN h.symm) c.q⟩
def IfW (ks : List Kw) (p : Bool × List (List Nat)) : Prop := (p.1 = false ∧ p.2 = []) ∨ (p.1 = true ∧ All2 KR ks p.2)
abbrev IfR (ks : List Kw) (b : Bool) (ts : List Tk) : Prop := ts = ifT b (KT ks)
theorem IfW.has {ks : List Kw} {p : Bool × List (List Nat)} (h : IfW ks p) : HasW (IfR ks) ks.length p := by
 cases p with | mk b ws =>
 cases h with
 | inl h => cases h.1; cases h.2; exact ⟨_, rfl, .nil, Nat.zero_le _⟩
 | inr h => cases h.1; exact ⟨_, rfl, ws_keys ks h.2, noe (All2.length _ h.2).symm⟩
theorem if_gen {m : Nat} {ks : List Kw} {G : Prop} (hl : ks.length ≤ cap) (xl : 0 < s.next) (q : IsSrc (s.objs 0)) (ho : s.objs m = .list (KL ks)) (hm : m < s.next) (hm0 : m ≠ 0)
  (k : ∀ (o : MObj) (p : Bool × List (List Nat)) s', cl (n + 5) 944 [.ref 0, .ref m] s = .ok (dBW .bool p) s' → Mv 0 IsSrc (pt s m o) s' → IfW ks p → G) : G := by
 have w0 := Fw.start xl q
 refine (take_gen (n := n+3) (top := 2) (by decide) xl q).elim fun i s1 e1 m1 p1 => ?_
 by_cases h : i = 0
 ·subst h
  refine (keys_all (n := n) hl (m1.lt xl) m1.q ((m1.k m hm hm0).trans ho) hm0).elim fun ys s2 e2 m2 p2 => ?_
  have w3 := ((Fw.start (s := pt s m .gone) xl (q_of (uN (Ne.symm hm0)) q)).mv (m1.both hm0)).mv m2
  have w4 := w3.nw (.list [.d (.bool true), dW ys])
  have c : Cal (dBW .bool) (cl (n + 5) 944 [.ref 0, .ref m] s) 0 IsSrc (pt s m .gone) (IfW ks) := w4.rL (true, ys) (.inr ⟨rfl, p2⟩) 0 rfl (Tr.v (e1) <| Tr.v (eqi_t (x := 0) (y := 0) (by decide)) <| Tr.v (e2) <| Tr.v (mkl (l := ([MV.d (D.bool true), dW ys])) (lbe rfl)) <| Tr.ret _) (by kernel_rfl)
  exact c.elim (k .gone)
 ·have w2 := (w0.mv m1).nw (.list (SL []))
  have w3 := w2.nw (.list [.d (.bool false), .ref s1.next])
  have c : Cal (dBW .bool) (cl (n + 5) 944 [.ref 0, .ref m] s) 0 IsSrc s (IfW ks) := w3.rP (false, []) (.inl ⟨rfl, rfl⟩) 0 1 rfl rfl (Tr.v (e1) <| Tr.v (eqi_f h) <| Tr.v (mkl (l := (SL [])) (lbe rfl)) <| Tr.v (mkl (l := ([MV.d (D.bool false), MV.ref s1.next])) (lbe rfl)) <| Tr.ret _) (by kernel_rfl)
  exact c.elim fun p s' e m3 h3 => k (.list (KL ks)) p s' e (m3.pt ho) h3
noncomputable abbrev kCOLL : Kw := ⟨cp "COLLATE", by decide⟩
theorem names_co : ∀ x ∈ [cp "nocase", cp "RTRIM", cp "x y"], x ∈ names11 := by decide
theorem indexed_gen (xl : 0 < s.next) (q : IsSrc (s.objs 0)) : Cal (dBW ixRow) (cl (n + 6) 909 [.ref 0] s) 0 IsSrc s (HasW IxT 4) := by
 have w0 := Fw.start xl q
 refine (name_gen (n := n+2) xl q).elim fun nm s1 e1 m1 _ => ?_
 have w1 := (w0.mv m1).nw (.list (SL []))
 refine (take_gen (n := n+4) (top := 3) (by decide) w1.x_lt w1.q).elim fun i s2 e2 m2 p2 => ?_
 have w2 := w1.mv m2
 by_cases h : i = 0
 ·subst h
  have w3 := w2.nw (.list (SL [cp "nocase", cp "RTRIM", cp "x y"]))
  refine (one_str (n := n+3) w3.x_lt w3.q (w3.g 0 rfl) (w3.lt 0 rfl) (w3.ne 0 rfl) (by decide)).elim fun co s3 e3 m3 p3 => ?_
  have p3 := names_co co p3
  have w4 := (w3.mv m3).nw (.list (KL [kCOLL]))
  refine (keys_gen (n := n+1) (lbe rfl) w4.x_lt w4.q (w4.g 0 rfl) (w4.ne 0 rfl)).elim fun ys s4 e4 m4 p4 => ?_
  have w5 := (w4.put 0 rfl .gone).mv m4
  refine (named_gen (n := n+3) p3 w5.x_lt w5.q).elim fun u s5 e5 m5 p5 => ?_
  have w6 := (w5.mv m5).nw (.list (SL [u]))
  have hy : ys.length ≤ 1 := noe p4.2
  have h1 : (ys ++ [u]).length ≤ 2 := len_app (b := 1) hy (nlr _)
  have h2 := to_cap h1
  have w7 := w6.nw (.list (SL (ys ++ [u])))
  refine (turned_gen (n := n) w7.x_lt w7.q).elim fun dd s6 e6 m6 p6 => p6.elim fun ts r6 ws6 l6 => ?_
  have w8 := w7.mv m6
  refine (named_gen (n := n+3) nm.2 w8.x_lt w8.q).elim fun v s7 e7 m7 p7 => ?_
  have w9 := (w8.mv m7).nw (.list (SL [v]))
  have h3 : ([v] ++ (ys ++ [u])).length ≤ 3 := len_app (a := 1) (nlr _) h1
  have h4 := to_cap h3
  have w10 := w9.nw (.list (SL ([v] ++ (ys ++ [u]))))
  have h5 : ([v] ++ (ys ++ [u]) ++ dd.2).length ≤ 4 := len_app h3 l6
  have h6 := to_cap h5
  have w11 := w10.nw (.list (SL ([v] ++ (ys ++ [u]) ++ dd.2)))
  have w12 := w11.nw (.list [.d (ixRow ⟨nm, some ⟨co, p3⟩, dd.1⟩), .ref (s7.next + 1 + 1)])
  exact w12.rP (⟨nm, some ⟨co, p3⟩, dd.1⟩, [v] ++ (ys ++ [u]) ++ dd.2) ⟨_, .mk r6, .app (.app (.one p7) (.app p4.1 (.one p5))) ws6, h5⟩ 0 1 rfl rfl (Tr.v (e1) <| Tr.v (mkl (l := (SL [])) (lbe rfl)) <| Tr.v (e2) <| Tr.v (eqi_t (x := 0) (y := 0) (by decide)) <| Tr.v (mkl (l := (SL [cp "nocase", cp "RTRIM", cp "x y"])) (lbe rfl)) <| Tr.v (e3) <| Tr.v (mkl (l := (KL [kCOLL])) (lbe rfl)) <| Tr.v (e4) <| Tr.v (e5) <| Tr.v (mkl (l := (SL [u])) (lbe rfl)) <| Tr.v (addw (x := (ys)) (y := ([u])) (lof_w (ys)) (lof (w6.g 0 rfl)) h2) <| Tr.v (e6) <| Tr.v (e7) <| Tr.v (mkl (l := (SL [v])) (lbe rfl)) <| Tr.v (addw (x := ([v])) (y := (ys ++ [u])) (lof (w9.g 0 rfl)) (lof (w9.g 1 rfl)) h4) <| Tr.v (addw (x := ([v] ++ (ys ++ [u]))) (y := (dd.snd)) (lof (w10.g 0 rfl)) (lof_w (dd.snd)) h6) <| Tr.v (mkl (l := ([MV.d (ixRow { nm := nm, co := some ⟨co, p3⟩, de := dd.fst }), MV.ref (s7.next + 1 + 1)])) (lbe rfl)) <| Tr.ret _) (by kernel_rfl)
 ·refine (turned_gen (n := n) w2.x_lt w2.q).elim fun dd s6 e6 m6 p6 => p6.elim fun ts r6 ws6 l6 => ?_
  have w8 := w2.mv m6
  refine (named_gen (n := n+3) nm.2 w8.x_lt w8.q).elim fun v s7 e7 m7 p7 => ?_
  have w9 := (w8.mv m7).nw (.list (SL [v]))
  have w10 := w9.nw (.list (SL ([v] ++ [])))
  have h5 : ([v] ++ [] ++ dd.2).length ≤ 2 := len_app (a := 1) (nlr _) l6
  have h6 := to_cap h5
  have w11 := w10.nw (.list (SL ([v] ++ [] ++ dd.2)))
  have w12 := w11.nw (.list [.d (ixRow ⟨nm, none, dd.1⟩), .ref (s7.next + 1 + 1)])
  exact w12.rP (⟨nm, none, dd.1⟩, [v] ++ [] ++ dd.2) ⟨_, .mk r6, .app (.app (.one p7) .nil) ws6, nlt h5 (by decide)⟩ 0 1 rfl rfl (Tr.v (e1) <| Tr.v (mkl (l := (SL [])) (lbe rfl)) <| Tr.v (e2) <| Tr.v (eqi_f h) <| Tr.v (e6) <| Tr.v (e7) <| Tr.v (mkl (l := (SL [v])) (lbe rfl)) <| Tr.v (addw (x := ([v])) (y := ([])) (lof (w9.g 0 rfl)) (lof (w9.g 1 rfl)) (lbe rfl)) <| Tr.v (addw (x := ([v] ++ [])) (y := (dd.snd)) (lof (w10.g 0 rfl)) (lof_w (dd.snd)) h6) <| Tr.v (mkl (l := ([MV.d (ixRow { nm := nm, co := none, de := dd.fst }), MV.ref (s7.next + 1 + 1)])) (lbe rfl)) <| Tr.ret _) (by kernel_rfl)
end
noncomputable section
noncomputable def lpP : Stmt → Expr × List Stmt
 | .For t _ b _ _ => (t, b)
 | .While t b _ _ => (t, b)
 | _ => (default, [])
def Pre (P E : EL) : Prop := P.map (fun p => E.lookup p.1) = P.map fun p => some p.2
end
theorem lk_pre {E : EL} : ∀ P : EL, Pre P E → lk (P ++ E) = lk E
 | [], _ => rfl
 | p :: P, h => by
  have z := List.cons.inj h
  have e : lk (p :: (P ++ E)) = (lk (P ++ E)).set p.1 p.2 := lk_set p.1 p.2 _
  have e0 : lk E p.1 = some p.2 := z.1
  show lk (p :: (P ++ E)) = lk E
  rw [e, lk_pre P z.2]
  funext y
  show (if y = p.1 then some p.2 else lk E y) = lk E y
  by_cases q : y = p.1
  ·rw [if_pos q, q, e0]
  ·rw [if_neg q]
section
variable {σ β : Type} {c : Cfg} {sc : Scope} {t : Expr} {b : List Stmt} {v : MV} {rg : Bool} {s s0 : MSt} {pre : σ → EL} {J : σ → MSt → Prop} {G : Prop}
inductive Blk (r : O (Fl × LEnv)) (pre : σ → EL) (J : σ → MSt → Prop) : Prop
 | mk (a : σ) (E : EL) (u : MSt) (e : r = .ok (.next, lk E) u) (h : Pre (pre a) E) (j : J a u)
inductive Lp (r : O (Fl × LEnv)) (pre : σ → EL) (J : σ → MSt → Prop) : Prop
 | mk (a : σ) (E : EL) (u : MSt) (e : r = .ok (.next, lk (pre a ++ E)) u) (j : J a u)
theorem Lp.elim {r : O (Fl × LEnv)} (h : Lp r pre J) (k : ∀ a E u, r = .ok (.next, lk (pre a ++ E)) u → J a u → G) : G := by
 cases h with | mk a E u e j => exact k a E u e j
theorem xs_on {E E' : EL} {u u' : MSt} (t : Tr (Fl × EL) u (.ok (.next, E') u')) (h : t.on (exsP c sc b E fun fl E => .ret (fl, E)) = t.ops) : exs c sc b (lk E) u = .ok (.next, lk E') u' := xs_run t h
theorem floop_run {I : List β → σ → MSt → Prop} {it : β → MV} {bd : β → EL} (hb : ∀ x E, bindFor sc t (it x) (lk E) = some (lk (bd x ++ E)))
  (step : ∀ x r a E u, I (x :: r) a u → Blk (exs c sc b (lk (bd x ++ (pre a ++ E))) u) pre (I r)) : ∀ (l : List β) (a : σ) (E : EL) (u : MSt), Pre (pre a) E → I l a u → Lp (floop (bindFor sc t) (fun le => exs c sc b le) (l.map it) (lk E) u) pre (I [])
 | [], a, E, u, h, i => ⟨a, E, u, by rw [lk_pre _ h]; rfl, i⟩
 | x :: l, a, E, u, h, i => by
  cases step x l a E u i with | mk a' E' u' e h' j =>
  have z := floop_run hb step l a' E' u' h' j
  have e1 : M.opt (bindFor sc t (it x) (lk E)) u = .ok (lk (bd x ++ (pre a ++ E))) u := by rw [← lk_pre _ h, hb]; rfl
  have e2 : floop (bindFor sc t) (fun le => exs c sc b le) ((x :: l).map it) (lk E) u = floop (bindFor sc t) (fun le => exs c sc b le) (l.map it) (lk E') u' := (bind_ok e1).trans (bind_ok (noExc_ok e))
  rw [e2]; exact z
theorem for_run {I : List β → σ → MSt → Prop} {it : β → MV} {bd : β → EL} {l : List β} {a : σ} {E : EL} (hit : (if rg then rngM v else iterOf v) s = .ok (l.map it) s0) (hb : ∀ x E, bindFor sc t (it x) (lk E) = some (lk (bd x ++ E)))
  (step : ∀ x r a E u, I (x :: r) a u → Blk (exs c sc b (lk (bd x ++ (pre a ++ E))) u) pre (I r)) (h : Pre (pre a) E) (i : I l a s0) : Lp (forM c sc rg t b E v s) pre (I []) := by
 unfold forM; rw [bind_ok hit]; exact floop_run hb step l a E s0 h i
theorem bf_name {x : Str} (h : ∀ v le, bindFor sc t v le = some (le.set x v)) (v : MV) (E : EL) : bindFor sc t v (lk E) = some (lk ([(x, v)] ++ E)) := (h v _).trans (congrArg some (lk_set x v E).symm)
theorem it_rng {k : Int} {n : Nat} (h : k = n) (hn : n ≤ 64) : (if true then rngM (.d (.int k)) else iterOf (.d (.int k))) s = .ok ((List.range n).map fun (i : Nat) => MV.d (.int (i : Int))) s := by
 subst h
 show rngM (.d (.int (n : Int))) s = _
 unfold rngM MV.int?
 dsimp only
 rw [if_pos ⟨Int.natCast_nonneg n, Int.ofNat_le.mpr hn⟩]; rfl
theorem it_ref {m : Nat} {ws : List (List Nat)} (h : s.objs m = .list (SL ws)) : (if false then rngM (.ref m) else iterOf (.ref m)) s = .ok (ws.map dS) (pt s m .gone) := by
 have e : frzM (.ref m) s = .ok (SD ws) (pt s m .gone) := by unfold frzM; rw [frz_lst (k := 4) h]
 exact (bind_ok e).trans (by rw [SD, List.map_map]; rfl)
theorem it_d {l : List D} : (if false then rngM (.d (.lst l)) else iterOf (.d (.lst l))) s = .ok (l.map .d) s := rfl
end
section
variable {s : MSt} {n : Nat}
theorem Fw.sub {x : Nat} {Q : MObj → Prop} {t : MSt} {fs fs' : List (Nat × MObj)} (w : Fw x Q s fs t) (h : fs'.Sublist fs) : Fw x Q s fs' t := ⟨w.toMv, w.xl, fun p hp => w.o p (h.subset hp), w.pw.sublist h⟩
theorem take_nat {top : Nat} (ht : 0 < top ∧ top < 1000) (xl : 0 < s.next) (q : IsSrc (s.objs 0)) : Cal (fun n : Nat => dI n) (cl (n + 1) 855 [.ref 0, .d (.int top)] s) 0 IsSrc s fun i => i < top :=
 (take_gen (n := n) (top := top) ⟨Int.ofNat_lt.mpr ht.1, Int.lt_trans (Int.ofNat_lt.mpr ht.2) (by decide)⟩ xl q).elim fun i s1 e m p => ⟨i.toNat, s1, by rw [Int.toNat_of_nonneg p.1]; exact e, m, Int.ofNat_lt.mp ((Int.toNat_of_nonneg p.1).symm ▸ p.2)⟩
theorem allD_map : ∀ ds : List D, allD (ds.map .d) = some ds
 | [] => rfl
 | d :: ds => congrArg (Option.map (d :: ·)) (allD_map ds)
theorem mkTup_map (ds : List D) : mkTup (ds.map .d) = .d (.tup ds) := by unfold mkTup; rw [allD_map]
theorem ty_tup {v : MV} {ds : List D} (h : lOf v s = some (ds.map .d)) (hl : ds.length ≤ cap) : callTyp "tuple" [v] s = .ok (.d (.tup ds)) s := by
 show (match lOf v s with | some l => if l.length ≤ cap then O.ok (mkTup l) s else .bad | none => .bad) = _
 rw [h]; dsimp only; rw [if_pos (by rw [llm]; exact hl), mkTup_map]
def FlW {α : Type} (R : α → List Tk → Prop) (xs : List α) (ws : List (List Nat)) : Prop := (xs = [] ∧ ws = []) ∨ ∃ ws' t, ws = [44] :: ws' ∧ FlT R xs (.sg 44 :: t) ∧ Ws ws' t
theorem FlW.snoc {α : Type} {R : α → List Tk → Prop} {xs : List α} {ws w : List (List Nat)} {x : α} {t : List Tk} (h : FlW R xs ws) (r : R x t) (hw : Ws w t) : FlW R (xs ++ [x]) (ws ++ [[44]] ++ w) := by
 refine .inr (h.elim (fun h => ⟨w, t, ?_, ?_, hw⟩) fun h => h.elim fun ws' h => h.elim fun t' h => ⟨ws' ++ [[44]] ++ w, t' ++ (.sg 44 :: t), ?_, h.2.1.snoc r, ?_⟩)
 ·rw [h.2]; rfl
 ·rw [h.1]; have z := FlT.cons r .nil; rwa [lan] at z
 ·rw [h.1]; rfl
 ·rw [lap]; exact h.2.2.app (.cons (wr_sg rfl) hw)
theorem len_cap {α : Type} {w : List α} {k B : Nat} (h : w.length + k ≤ B) (hB : Nat.ble B cap = true := by rfl) : w.length ≤ cap := nlt (nlt (nla _ _) h) (lbe hB)
structure Ga {α : Type} (R : α → List Tk → Prop) (row : α → D) (p0 k B N : Nat) (s : MSt) (l : List Nat) (a : List α × List (List Nat) × Nat) (u : MSt) : Prop where
 w : Fw 0 IsSrc s [(a.2.2, .list (SL a.2.1)), (p0, .list ((a.1.map row).map .d))] u
 f : FlW R a.1 a.2.1
 b : a.2.1.length + k * l.length ≤ B
 n : a.1.length + l.length = N
theorem map_snoc {α : Type} (row : α → D) (xs : List α) (x : α) : (xs.map row).map MV.d ++ [.d (row x)] = ((xs ++ [x]).map row).map MV.d := by rw [List.map_append, List.map_append]; rfl
theorem cnt_step {α : Type} {xs : List α} {x : α} {l N : Nat} (h : xs.length + (l + 1) = N) : (xs ++ [x]).length + l = N := by rw [lla, Nat.add_assoc, Nat.add_comm [x].length]; exact h
theorem cnt_lt {α : Type} {xs : List α} {l N : Nat} (h : xs.length + (l + 1) = N) (hN : Nat.ble N 100 = true) : xs.length < cap := lll (lll (Nat.lt_add_of_pos_right (Nat.succ_pos l)) (nlt (noe h) (lbe hN))) (by decide)
theorem len_one {α : Type} {w : List α} {x : α} {k l B : Nat} (h : w.length + (k + 1) * (l + 1) ≤ B) : (w ++ [x]).length + (k + (k + 1) * l) ≤ B := by
 rw [Nat.mul_succ, Nat.add_comm _ (k + 1)] at h
 rw [lla, Nat.add_assoc, ← Nat.add_assoc [x].length, Nat.add_comm [x].length]; exact h
theorem len_more {α : Type} {w x : List α} {k l B : Nat} (h : w.length + (k + l) ≤ B) (hx : x.length ≤ k) : (w ++ x).length + l ≤ B := by
 rw [lla, Nat.add_assoc]; exact nlt (Nat.add_le_add_left (Nat.add_le_add_right hx _) _) h
theorem len_drop {α : Type} (w : List α) {k : Nat} {b : Option Nat} : (cut w (some k) b).length ≤ w.length := by
 unfold cut
 rw [List.length_drop]
 cases b with
 | none => exact Nat.sub_le ..
 | some b => exact nlt (Nat.sub_le ..) (List.length_take_le' ..)
theorem columns_gen (xl : 0 < s.next) (q : IsSrc (s.objs 0)) : Cal (dBW fun xs : List Ix => .tup (xs.map ixRow)) (cl (n + 7) 916 [.ref 0] s) 0 IsSrc s fun p => HasW CsT 12 p ∧ ∃ ws, p.2 = ws ++ [[41]] := by
 have w0 := Fw.start xl q
 have w1 := w0.nw (.list (SL []))
 have w2 := w1.nw (.list (SL []))
 refine (take_nat (n := n+5) (top := 2) (by decide) w2.x_lt w2.q).elim fun i s1 e1 m1 p1 => ?_
 have w3 := w2.mv m1
 have hN2 : 1 + i ≤ 2 := by rw [Nat.add_comm]; exact p1
 have hN : Nat.ble (1 + i) 100 = true := Nat.ble_eq_true_of_le (nlt hN2 (by decide))
 refine (for_run (c := cN KK (n + 6)) (sc := fS 916) (t := (lpP (stAt 916 1)).1) (b := (lpP (stAt 916 1)).2) (E := [(so "words", .ref (s.next + 1)), (so "rows", .ref s.next), (so "source", .ref 0)]) (pre := fun a => [(so "source", .ref 0), (so "rows", .ref s.next), (so "words", .ref a.2.2)])
  (it_rng (k := 1 + (i : Int)) (n := 1 + i) rfl (nlt (Nat.add_le_add_left (nol p1) 1) (by decide : 1 + 2 ≤ 64))) (fun x E => bf_name (x := so "turn") (fun v le => by kernel_rfl) _ E) (I := Ga IxT ixRow s.next 5 10 (1 + i) s) (a := ([], [], s.next + 1)) ?_ rfl ⟨w3, .inl ⟨rfl, rfl⟩, ?_, ?_⟩).elim fun a E u e2 j => ?_
 ·intro x r a E u I
  have w3 := I.w
  refine (indexed_gen (n := n) w3.x_lt w3.q).elim fun p s2 e3 m2 p2 => p2.elim fun ts r2 ws2 l2 => ?_
  have w4 := w3.mv m2
  have h1 : ((a.1.map ixRow).map MV.d).length < cap := by rw [llm, llm]; exact cnt_lt I.n hN
  have sn := map_snoc ixRow a.1 p.1
  have w5 := w4.put 1 rfl (.list (((a.1 ++ [p.1]).map ixRow).map .d))
  have w6 := w5.nw (.list (SL [[44]]))
  have h2 : (a.2.1 ++ [[44]]).length + (4 + 5 * r.length) ≤ 10 := len_one I.b
  have h3 := len_cap h2
  have h4 : (a.2.1 ++ [[44]] ++ p.2).length + 5 * r.length ≤ 10 := len_more h2 l2
  have h5 := len_cap h4
  have w7 := w6.nw (.list (SL (a.2.1 ++ [[44]])))
  have w8 := w7.nw (.list (SL (a.2.1 ++ [[44]] ++ p.2)))
  refine ⟨(a.1 ++ [p.1], a.2.1 ++ [[44]] ++ p.2, s2.next + 2), [(so "words", .ref (s2.next + 2)), (so "more", dW p.2), (so "row", .d (ixRow p.1)), (so "turn", .d (.int (x : Int))), (so "source", .ref 0), (so "rows", .ref s.next), (so "words", .ref a.2.2)] ++ E, _, xs_on (Tr.v (e3) <| Tr.v (app_m (w4.g 1 rfl)) <| Tr.v (app_e (v := (.d (ixRow p.fst))) (w4.g 1 rfl) h1 sn) <| Tr.v (mkl (l := (SL [[44]])) (lbe rfl)) <| Tr.v (addw (x := (a.snd.fst)) (y := ([[44]])) (lof (w6.g 1 rfl)) (lof (w6.g 0 rfl)) h3) <| Tr.v (addw (x := (a.snd.fst ++ [[44]])) (y := (p.snd)) (lof (w7.g 0 rfl)) (lof_w (p.snd)) h5) <| Tr.ret _) (by kernel_rfl), rfl, ⟨w8.sub (.cons_cons _ (.cons _ (.cons _ (.cons _ (.cons_cons _ .slnil))))), I.f.snoc r2 ws2, h4, cnt_step I.n⟩⟩
 ·exact nlt (noe (by rw [List.length_range]; exact Nat.zero_add _)) (Nat.mul_le_mul_left 5 hN2)
 ·exact (Nat.zero_add _).trans (List.length_range ..)
 ·have w4 := j.w
  have jn : a.1.length = 1 + i := j.n
  refine j.f.elim (fun f => absurd jn (by rw [f.1]; exact nnl (lll Nat.zero_lt_one (nla 1 i)))) fun f => f.elim fun ws' f => f.elim fun ts f => ?_
  have hx : a.1.length ≤ 2 := jn ▸ hN2
  have hb := j.b
  have h0 : (a.1.map ixRow).length ≤ cap := by rw [llm]; exact to_cap hx
  have h2 := len_cap hb
  have w5 := w4.nw (.list (SL [[40]]))
  have w6 := w5.nw (.list (SL (cut a.2.1 (some 1) none)))
  have h3 : (cut a.2.1 (some 1) none).length ≤ 10 := nlt (len_drop _) hb
  have h4 := len_app (x := [[40]]) (a := 1) (nlr _) h3
  have h5 := to_cap h4
  have w7 := w6.nw (.list (SL ([[40]] ++ cut a.2.1 (some 1) none)))
  have w8 := w7.nw (.list (SL [[41]]))
  have h6 := len_app (y := [[41]]) (b := 1) h4 (nlr _)
  have h7 := to_cap h6
  have w9 := w8.nw (.list (SL ([[40]] ++ cut a.2.1 (some 1) none ++ [[41]])))
  have w10 := w9.nw (.list [.d (.tup (a.1.map ixRow)), .ref (u.next + 4)])
  have e4 : cut a.2.1 (some 1) none = ws' := by rw [f.1]; rfl
  exact w10.rP (a.1, [[40]] ++ cut a.2.1 (some 1) none ++ [[41]]) ⟨⟨_, .mk f.2.1 hx, by rw [e4]; exact (Ws.cons (wr_sg rfl) f.2.2).app (.cons (wr_sg rfl) .nil), h6⟩, _, rfl⟩ 0 1 rfl rfl (Tr.v (mkl (l := (SL [])) (lbe rfl)) <| Tr.v (mkl (l := (SL [])) (lbe rfl)) <| Tr.v (e1) <| Tr.x (e2) <| Tr.v (ty_tup (lof (w4.g 1 rfl)) h0) <| Tr.v (mkl (l := (SL [[40]])) (lbe rfl)) <| Tr.v (gsw (x := (a.snd.fst)) (lof (w5.g 1 rfl)) (lo := (some (.int 1))) (hi := none) rfl rfl h2) <| Tr.v (addw (x := ([[40]])) (y := (cut a.snd.fst (some 1) none)) (lof (w6.g 1 rfl)) (lof (w6.g 0 rfl)) h5) <| Tr.v (mkl (l := (SL [[41]])) (lbe rfl)) <| Tr.v (addw (x := ([[40]] ++ cut a.snd.fst (some 1) none)) (y := ([[41]])) (lof (w8.g 1 rfl)) (lof (w8.g 0 rfl)) h7) <| Tr.v (mkl (l := ([MV.d (D.tup (List.map ixRow a.fst)), MV.ref (u.next + 4)])) (lbe rfl)) <| Tr.ret _) (by kernel_rfl)
end
section
variable {s : MSt} {n : Nat}
theorem lk_dup (x : Str) (v w : MV) (E : EL) : lk ((x, v) :: (x, w) :: E) = lk ((x, v) :: E) := by
 rw [lk_set, lk_set, lk_set]
 funext y
 show (if y = x then some v else if y = x then some w else lk E y) = if y = x then some v else lk E y
 by_cases q : y = x
 ·rw [if_pos q, if_pos q]
 ·rw [if_neg q, if_neg q, if_neg q]
theorem Fw.cut0 {x m : Nat} {Q : MObj → Prop} {u : MSt} {fs : List (Nat × MObj)} (w : Fw x Q s fs u) (h : s.next ≤ m) : Fw x Q s [] ⟨u.next, above m u.objs⟩ :=
 ⟨⟨w.n, fun k h1 n => (above_lt (lll h1 h)).trans (w.k k h1 n), q_of (above_lt (lll w.xl h)) w.q⟩, w.xl, fun _ h => (nomatch h), .nil⟩
theorem wr_free {w : List Nat} (h : (btB w (.free w) && Nat.ble w.length 40) = true) : Wr w [.free w] := ⟨lx_bare ((Bool.and_eq_true _ _).mp h).1, lbe ((Bool.and_eq_true _ _).mp h).2⟩
theorem ws_cons {w : List Nat} {t : List Tk} {ws : List (List Nat)} {ts : List Tk} (h : Wr w t) (r : Ws ws ts) : Ws (w :: ws) (t ++ ts) := .cons h r
abbrev TyR (t : To) (ts : List Tk) : Prop := TyT t.1 ts
theorem ty0 : HasW TyR 7 (⟨none, by decide⟩, []) := ⟨_, .mk (p := ([], 0)) (by decide) rfl, .nil, by decide⟩
theorem ty1 : HasW TyR 7 (⟨some (cp "INT"), by decide⟩, [cp "INT"]) := ⟨_, .mk (p := ([cp "INT"], 0)) (by decide) (by decide), .one (wr_free (by decide +kernel)), by decide⟩
theorem ty2 : HasW TyR 7 (⟨some (cp "text"), by decide⟩, [cp "text"]) := ⟨_, .mk (p := ([cp "text"], 0)) (by decide) (by decide), .one (wr_free (by decide +kernel)), by decide⟩
theorem ty3 : HasW TyR 7 (⟨some (cp "VARCHAR(10)"), by decide⟩, [cp "VARCHAR", cp "(", cp "10", cp ")"]) :=
 ⟨[.free (cp "VARCHAR"), .sg 40, .nu 10, .sg 41], .mk (p := ([cp "VARCHAR"], 1)) (by decide) (by decide), ws_cons (wr_free (w := cp "VARCHAR") (by decide +kernel)) (ws_cons (wr_sg (c := 40) rfl) (ws_cons (t := [.nu 10]) ⟨lx_num (.inl rfl), by decide⟩ (ws_cons (wr_sg (c := 41) rfl) .nil))), by decide⟩
theorem ty4 : HasW TyR 7 (⟨some (cp "big number(5,-2)"), by decide⟩, [cp "big", cp "number", cp "(", cp "+5", cp ",", cp "-2", cp ")"]) :=
 ⟨[.free (cp "big"), .free (cp "number"), .sg 40, .sg 43, .nu 5, .sg 44, .sg 45, .nu 2, .sg 41], .mk (p := ([cp "big", cp "number"], 2)) (by decide) (by decide), ws_cons (wr_free (w := cp "big") (by decide +kernel)) (ws_cons (wr_free (w := cp "number") (by decide +kernel)) (ws_cons (wr_sg (c := 40) rfl) (ws_cons (t := [.sg 43, .nu 5]) ⟨LexF.cat (u := [43]) (v := [53]) (lx_sg rfl) (lx_num (.inr (.inl rfl))), by decide⟩
  (ws_cons (wr_sg (c := 44) rfl) (ws_cons (t := [.sg 45, .nu 2]) ⟨lx_minus (u := [50]) (.inr (.inr rfl)), by decide⟩ (ws_cons (wr_sg (c := 41) rfl) .nil)))))), by decide⟩
theorem ty5 : HasW TyR 7 (⟨some (cp "x y"), by decide⟩, [cp "\"x y\""]) := ⟨_, .mk (p := ([cp "x y"], 0)) (by decide) (by decide), .one ⟨lx_quote (u := cp "x y") (q := 34) ⟨.inl rfl, .inl (by decide)⟩, by decide⟩, by decide⟩
theorem type_gen (xl : 0 < s.next) (q : IsSrc (s.objs 0)) : Cal (dBW fun t : To => optD t.1) (cl (n + 3) 923 [.ref 0] s) 0 IsSrc s (HasW TyR 7) := by
 have w0 := Fw.start xl q
 have w1 := w0.nw (.list (SL []))
 have w2 := w1.nw (.list [.d .none, .ref s.next])
 have w3 := w2.nw (.list (SL [cp "INT"]))
 have w4 := w3.nw (.list [.d (strD "INT"), .ref (s.next + 2)])
 have w5 := w4.nw (.list (SL [cp "text"]))
 have w6 := w5.nw (.list [.d (strD "text"), .ref (s.next + 4)])
 have w7 := w6.nw (.list (SL [cp "VARCHAR", cp "(", cp "10", cp ")"]))
 have w8 := w7.nw (.list [.d (strD "VARCHAR(10)"), .ref (s.next + 6)])
 have w9 := w8.nw (.list (SL [cp "big", cp "number", cp "(", cp "+5", cp ",", cp "-2", cp ")"]))
 have w10 := w9.nw (.list [.d (strD "big number(5,-2)"), .ref (s.next + 8)])
 have w11 := w10.nw (.list (SL [cp "\"x y\""]))
 have w12 := w11.nw (.list [.d (strD "x y"), .ref (s.next + 10)])
 have w13 := w12.nw (.list [.ref (s.next + 1), .ref (s.next + 3), .ref (s.next + 5), .ref (s.next + 7), .ref (s.next + 9), .ref (s.next + 11)])
 refine one_run (n := n) w13.x_lt w13.q (w13.g 0 rfl) (w13.lt 0 rfl) (w13.ne 0 rfl) ⟨Nat.zero_lt_succ _, lbe rfl⟩ fun x s1 hx m1 e1 => ?_
 have w14 := w13.mv m1
 have fin : ∀ (p : To × List (List Nat)) {m m2 : Nat}, HasW TyR 7 p → x = .ref m → s1.objs m = .list [.d (optD p.1.1), .ref m2] → s1.objs m2 = .list (SL p.2) → Fw 0 IsSrc s [] ⟨s1.next, above (s.next + 13) (upd (upd s1.objs m2 .gone) m .gone)⟩ → Cal (dBW fun t : To => optD t.1) (cl (n + 3) 923 [.ref 0] s) 0 IsSrc s (HasW TyR 7) := by
  intro p m m2 hp ex h1 h2 w
  subst ex
  have e2 := e1.trans (hb_of (frz_pair h1 h2))
  have w' := w.nw (.list [.d (optD p.1.1), dW p.2])
  exact w'.rL p hp 0 rfl (Tr.v (mkl (l := (SL [])) (lbe rfl)) <| Tr.v (mkl (l := ([MV.d D.none, MV.ref s.next])) (lbe rfl)) <| Tr.v (mkl (l := (SL [cp "INT"])) (lbe rfl)) <| Tr.v (mkl (l := ([MV.d (strD "INT"), MV.ref (s.next + 2)])) (lbe rfl)) <| Tr.v (mkl (l := (SL [cp "text"])) (lbe rfl)) <| Tr.v (mkl (l := ([MV.d (strD "text"), MV.ref (s.next + 4)])) (lbe rfl)) <| Tr.v (mkl (l := (SL [cp "VARCHAR", cp "(", cp "10", cp ")"])) (lbe rfl)) <| Tr.v (mkl (l := ([MV.d (strD "VARCHAR(10)"), MV.ref (s.next + 6)])) (lbe rfl)) <| Tr.v (mkl (l := (SL [cp "big", cp "number", cp "(", cp "+5", cp ",", cp "-2", cp ")"])) (lbe rfl)) <| Tr.v (mkl (l := ([MV.d (strD "big number(5,-2)"), MV.ref (s.next + 8)])) (lbe rfl)) <| Tr.v (mkl (l := (SL [cp "\"x y\""])) (lbe rfl)) <| Tr.v (mkl (l := ([MV.d (strD "x y"), MV.ref (s.next + 10)])) (lbe rfl)) <| Tr.v (mkl (l := ([MV.ref (s.next + 1), MV.ref (s.next + 3), MV.ref (s.next + 5), MV.ref (s.next + 7), MV.ref (s.next + 9), MV.ref (s.next + 11)])) (lbe rfl)) <| Tr.v (e2) <| Tr.v (mkl (l := ([MV.d (optD p.fst.val), dW p.snd])) (lbe rfl)) <| Tr.ret _) (by kernel_rfl)
 have cut {fs} {u : MSt} (w : Fw 0 IsSrc s fs u) := w.cut0 (nla s.next 13)
 refine (lmc hx).elim (fun h => fin _ ty0 h (w14.g 11 rfl) (w14.g 12 rfl) (cut ((w14.put 12 rfl .gone).put 11 rfl .gone))) fun hx => ?_
 refine (lmc hx).elim (fun h => fin _ ty1 h (w14.g 9 rfl) (w14.g 10 rfl) (cut ((w14.put 10 rfl .gone).put 9 rfl .gone))) fun hx => ?_
 refine (lmc hx).elim (fun h => fin _ ty2 h (w14.g 7 rfl) (w14.g 8 rfl) (cut ((w14.put 8 rfl .gone).put 7 rfl .gone))) fun hx => ?_
 refine (lmc hx).elim (fun h => fin _ ty3 h (w14.g 5 rfl) (w14.g 6 rfl) (cut ((w14.put 6 rfl .gone).put 5 rfl .gone))) fun hx => ?_
 refine (lmc hx).elim (fun h => fin _ ty4 h (w14.g 3 rfl) (w14.g 4 rfl) (cut ((w14.put 4 rfl .gone).put 3 rfl .gone))) fun hx => ?_
 exact fin _ ty5 (List.mem_singleton.mp hx) (w14.g 1 rfl) (w14.g 2 rfl) (cut ((w14.put 2 rfl .gone).put 1 rfl .gone))
end
section
variable {s : MSt} {n : Nat}
noncomputable section
abbrev kCONS : Kw := ⟨cp "CONSTRAINT", by decide⟩
abbrev kPRIM : Kw := ⟨cp "PRIMARY", by decide⟩
abbrev kKEY : Kw := ⟨cp "KEY", by decide⟩
abbrev kNOT : Kw := ⟨cp "NOT", by decide⟩
abbrev kNULL : Kw := ⟨cp "NULL", by decide⟩
abbrev kUNIQ : Kw := ⟨cp "UNIQUE", by decide⟩
def occD : Option Cc → D
 | none => .none
 | some c => ccRow c
end
abbrev OcR (o : Option Cc) (ts : List Tk) : Prop := CcsT o.toList ts
theorem crT {c : Cc} {ts : List Tk} (h : CrT c ts) : CcsT [c] ts := by
 have z := CcsT.cr h .nil
 rwa [lan] at z
theorem names_co2 : ∀ x ∈ [cp "NOCASE", cp "x y"], x ∈ names11 := by decide
theorem constraint_gen (xl : 0 < s.next) (q : IsSrc (s.objs 0)) : Cal (dBW occD) (cl (n + 6) 930 [.ref 0] s) 0 IsSrc s (HasW OcR 5) := by
 have w0 := Fw.start xl q
 refine (take_gen (n := n+4) (top := 6) (by decide) xl q).elim fun i s1 e1 m1 p1 => ?_
 have w1 := (w0.mv m1).nw (.list (SL []))
 have tail : ∀ (m : Nat) (ah : List (List Nat)) (t : MSt) (ta : List Tk) (w : Fw 0 IsSrc s [(m, .list (SL ah))] t) (wa : Ws ah ta) (ha : ∀ cs ts, CcsT cs ts → CcsT cs (ta ++ ts)) (la : ah.length ≤ 2)
   (h1 : exs (cN KK (n + 5)) (fS 930) ((fB 930).take 2) (lk [(so "source", .ref 0)]) s = .ok (.next, lk [(so "ahead", .ref m), (so "way", dI i), (so "source", .ref 0)]) t), Cal (dBW occD) (cl (n + 6) 930 [.ref 0] s) 0 IsSrc s (HasW OcR 5) := by
  intro m ah t ta w wa ha la h1
  have en {v t'} (h : exv (cN KK (n + 5)) (fS 930) ((fB 930).drop 2) (lk [(so "ahead", .ref m), (so "way", dI i), (so "source", .ref 0)]) t = .ok v t') : Ends 930 (n + 5) [.ref 0] s v t' := .xv (xv_then 2 h1 h)
  have ky (ks : List Kw) (hl : Nat.ble ks.length cap = true) {u} {fs} (w : Fw 0 IsSrc s fs u) := keys_gen (n := n + 1) (s := nw u (.list (KL ks))) (lbe hl) (w.nw _).x_lt (w.nw _).q ((w.nw _).g 0 rfl) ((w.nw _).ne 0 rfl)
  by_cases h0 : i = 0
  ·refine (turned_gen (n := n) w.x_lt w.q).elim fun dd s2 e2 m2 p2 => p2.elim fun ts r2 ws2 l2 => ?_
   have w3 := (w.mv m2).nw (.list (KL [kPRIM, kKEY]))
   refine (ky [kPRIM, kKEY] rfl (w.mv m2)).elim fun ys s3 e3 m3 p3 => ?_
   have w4 := (w3.put 0 rfl .gone).mv m3
   have h2 := len_app la (noe p3.2)
   have h3 := to_cap h2
   have w5 := w4.nw (.list (SL (ah ++ ys)))
   have h4 := len_app h2 l2
   have h5 := to_cap h4
   have w6 := w5.nw (.list (SL (ah ++ ys ++ dd.2)))
   have w7 := w6.nw (.list [.d (ccRow (.pk dd.1)), .ref (s3.next + 1)])
   exact w7.nP (some (.pk dd.1), ah ++ ys ++ dd.2) ⟨_, by rw [lap ta]; exact ha _ _ (crT (.pk r2)), (wa.app p3.1).app ws2, h4⟩ 0 1 rfl rfl (en (xv_run (Tr.v (eqi_t h0) <| Tr.v (e2) <| Tr.v (mkl (l := (KL [kPRIM, kKEY])) (lbe rfl)) <| Tr.v (e3) <| Tr.v (addw (x := (ah)) (y := (ys)) (lof (w4.g 1 rfl)) (lof_w (ys)) h3) <| Tr.v (addw (x := (ah ++ ys)) (y := (dd.snd)) (lof (w5.g 0 rfl)) (lof_w (dd.snd)) h5) <| Tr.v (mkl (l := ([MV.d (ccRow (Cc.pk dd.fst)), MV.ref (s3.next + 1)])) (lbe rfl)) <| Tr.ret _) (by kernel_rfl)))
  ·by_cases h3 : i < 3
   ·have w3 := w.nw (.list (KL [kNOT, kNULL]))
    refine (ky [kNOT, kNULL] rfl w).elim fun ys s3 e3 m3 p3 => ?_
    have w4 := (w3.put 0 rfl .gone).mv m3
    have h2 := len_app la (noe p3.2)
    have h4 := to_cap h2
    have w5 := w4.nw (.list (SL (ah ++ ys)))
    have w6 := w5.nw (.list [.d (ccRow .nn), .ref s3.next])
    exact w6.nP (some .nn, ah ++ ys) ⟨_, ha _ _ (crT .nn), wa.app p3.1, nlt h2 (by decide)⟩ 0 1 rfl rfl (en (xv_run (Tr.v (eqi_f h0) <| Tr.v (lt_t h3) <| Tr.v (mkl (l := (KL [kNOT, kNULL])) (lbe rfl)) <| Tr.v (e3) <| Tr.v (addw (x := (ah)) (y := (ys)) (lof (w4.g 1 rfl)) (lof_w (ys)) h4) <| Tr.v (mkl (l := ([MV.d (ccRow Cc.nn), MV.ref s3.next])) (lbe rfl)) <| Tr.ret _) (by kernel_rfl)))
   ·by_cases h5 : i = 3
    ·have w3 := w.nw (.list (KL [kUNIQ]))
     refine (ky [kUNIQ] rfl w).elim fun ys s3 e3 m3 p3 => ?_
     have w4 := (w3.put 0 rfl .gone).mv m3
     have h2 := len_app la (noe p3.2)
     have h4 := to_cap h2
     have w5 := w4.nw (.list (SL (ah ++ ys)))
     have w6 := w5.nw (.list [.d (ccRow .uq), .ref s3.next])
     exact w6.nP (some .uq, ah ++ ys) ⟨_, ha _ _ (crT .uq), wa.app p3.1, nlt h2 (by decide)⟩ 0 1 rfl rfl (en (xv_run (Tr.v (eqi_f h0) <| Tr.v (lt_f h3) <| Tr.v (eqi_t h5) <| Tr.v (mkl (l := (KL [kUNIQ])) (lbe rfl)) <| Tr.v (e3) <| Tr.v (addw (x := (ah)) (y := (ys)) (lof (w4.g 1 rfl)) (lof_w (ys)) h4) <| Tr.v (mkl (l := ([MV.d (ccRow Cc.uq), MV.ref s3.next])) (lbe rfl)) <| Tr.ret _) (by kernel_rfl)))
    ·by_cases h6 : i = 4
     ·have w3 := w.nw (.list (KL [kNULL]))
      refine (ky [kNULL] rfl w).elim fun ys s3 e3 m3 p3 => ?_
      have w4 := (w3.put 0 rfl .gone).mv m3
      have h2 := len_app la (noe p3.2)
      have h4 := to_cap h2
      have w5 := w4.nw (.list (SL (ah ++ ys)))
      have w6 := w5.nw (.list [.d .none, .ref s3.next])
      exact w6.nP (none, ah ++ ys) ⟨_, ha _ _ (.no .nil), wa.app p3.1, nlt h2 (by decide)⟩ 0 1 rfl rfl (en (xv_run (Tr.v (eqi_f h0) <| Tr.v (lt_f h3) <| Tr.v (eqi_f h5) <| Tr.v (eqi_t h6) <| Tr.v (mkl (l := (KL [kNULL])) (lbe rfl)) <| Tr.v (e3) <| Tr.v (addw (x := (ah)) (y := (ys)) (lof (w4.g 1 rfl)) (lof_w (ys)) h4) <| Tr.v (mkl (l := ([MV.d D.none, MV.ref s3.next])) (lbe rfl)) <| Tr.ret _) (by kernel_rfl)))
     ·have w3 := w.nw (.list (SL [cp "NOCASE", cp "x y"]))
      refine (one_str (n := n+3) w3.x_lt w3.q (w3.g 0 rfl) (w3.lt 0 rfl) (w3.ne 0 rfl) (by decide)).elim fun co s2 e2 m2 p2 => ?_
      have p2 := names_co2 co p2
      have w4 := (w3.mv m2).nw (.list (KL [kCOLL]))
      refine (ky [kCOLL] rfl (w3.mv m2)).elim fun ys s3 e3 m3 p3 => ?_
      have w5 := (w4.put 0 rfl .gone).mv m3
      have h2 := len_app la (noe p3.2)
      have h7 := to_cap h2
      have w6 := w5.nw (.list (SL (ah ++ ys)))
      refine (named_gen (n := n+3) p2 w6.x_lt w6.q).elim fun u s4 e4 m4 p4 => ?_
      have w7 := (w6.mv m4).nw (.list (SL [u]))
      have h8 := len_app (y := [u]) (b := 1) h2 (nlr _)
      have h9 := to_cap h8
      have w8 := w7.nw (.list (SL (ah ++ ys ++ [u])))
      have w9 := w8.nw (.list [.d (ccRow (.co ⟨co, p2⟩)), .ref (s4.next + 1)])
      exact w9.nP (some (.co ⟨co, p2⟩), ah ++ ys ++ [u]) ⟨_, by rw [lap ta]; exact ha _ _ (crT (.co (n := ⟨co, p2⟩))), (wa.app p3.1).app (.one p4), nlt h8 (by decide)⟩ 0 1 rfl rfl (en (xv_run (Tr.v (eqi_f h0) <| Tr.v (lt_f h3) <| Tr.v (eqi_f h5) <| Tr.v (eqi_f h6) <| Tr.v (mkl (l := (SL [cp "NOCASE", cp "x y"])) (lbe rfl)) <| Tr.v (e2) <| Tr.v (mkl (l := (KL [kCOLL])) (lbe rfl)) <| Tr.v (e3) <| Tr.v (addw (x := (ah)) (y := (ys)) (lof (w5.g 2 rfl)) (lof_w (ys)) h7) <| Tr.v (e4) <| Tr.v (mkl (l := (SL [u])) (lbe rfl)) <| Tr.v (addw (x := (ah ++ ys)) (y := ([u])) (lof (w7.g 1 rfl)) (lof (w7.g 0 rfl)) h9) <| Tr.v (mkl (l := ([MV.d (ccRow (Cc.co ⟨co, p2⟩)), MV.ref (s4.next + 1)])) (lbe rfl)) <| Tr.ret _) (by kernel_rfl)))
 refine (take_gen (n := n+4) (top := 4) (by decide) w1.x_lt w1.q).elim fun j s2 e2 m2 p2 => ?_
 have w2 := w1.mv m2
 by_cases h : j = 0
 ·subst h
  have w3 := w2.nw (.list (KL [kCONS]))
  refine (keys_gen (n := n+1) (lbe rfl) w3.x_lt w3.q (w3.g 0 rfl) (w3.ne 0 rfl)).elim fun ys s3 e3 m3 p3 => ?_
  have w4 := (w3.put 0 rfl .gone).mv m3
  refine (name_gen (n := n+2) w4.x_lt w4.q).elim fun nm s4 e4 m4 _ => ?_
  have w5 := w4.mv m4
  refine (named_gen (n := n+3) nm.2 w5.x_lt w5.q).elim fun u s5 e5 m5 p5 => ?_
  have w6 := (w5.mv m5).nw (.list (SL [u]))
  have h1 : (ys ++ [u]).length ≤ 2 := len_app (b := 1) (noe p3.2) (nlr _)
  have h2 := to_cap h1
  have w7 := w6.nw (.list (SL (ys ++ [u])))
  refine tail (s5.next + 1) (ys ++ [u]) _ _ (w7.sub (.cons_cons _ (List.nil_sublist _))) (p3.1.app (.one p5)) (fun cs ts h => .ah (n := nm) h) h1 ((xs_on (E := [(so "source", .ref 0)]) (E' := [(so "ahead", .ref (s5.next + 1)), (so "ahead", .ref s1.next), (so "way", dI i), (so "source", .ref 0)]) (Tr.v (e1) <| Tr.v (mkl (l := (SL [])) (lbe rfl)) <| Tr.v (e2) <| Tr.v (eqi_t (x := 0) (y := 0) (by decide)) <| Tr.v (mkl (l := (KL [kCONS])) (lbe rfl)) <| Tr.v (e3) <| Tr.v (e4) <| Tr.v (e5) <| Tr.v (mkl (l := (SL [u])) (lbe rfl)) <| Tr.v (addw (x := (ys)) (y := ([u])) (lof_w (ys)) (lof (w6.g 0 rfl)) h2) <| Tr.ret _) (by kernel_rfl)).trans ?_)
  rw [lk_dup]
 ·exact tail s1.next [] _ [] w2 .nil (fun _ _ h => h) (Nat.zero_le _) (xs_on (E := [(so "source", .ref 0)]) (E' := [(so "ahead", .ref s1.next), (so "way", dI i), (so "source", .ref 0)]) (Tr.v (e1) <| Tr.v (mkl (l := (SL [])) (lbe rfl)) <| Tr.v (e2) <| Tr.v (eqi_f h) <| Tr.ret _) (by kernel_rfl))
end
section
variable {s : MSt} {n : Nat}
structure Co (nm : Na) (a0 : List Tk) (p0 B N : Nat) (s : MSt) (l : List Nat) (a : List Cc × List (List Nat) × Nat) (u : MSt) : Prop where
 w : Fw 0 IsSrc s [(p0, .list ((a.1.map ccRow).map .d)), (a.2.2, .list (SL a.2.1))] u
 f : ∃ ts, CcsT a.1 ts ∧ Ws a.2.1 (.free nm.1 :: (a0 ++ ts))
 b : a.2.1.length + 5 * l.length ≤ B
 n : a.1.length + l.length ≤ N
theorem len_more' {α : Type} {w x : List α} {k l B : Nat} (h : w.length + k * (l + 1) ≤ B) (hx : x.length ≤ k) : (w ++ x).length + k * l ≤ B := by
 rw [Nat.mul_succ, Nat.add_comm _ k] at h; exact len_more h hx
theorem Fw.swp {x : Nat} {Q : MObj → Prop} {t : MSt} {p q : Nat × MObj} (w : Fw x Q s [p, q] t) : Fw x Q s [q, p] t := ⟨w.toMv, w.xl, fun r hr => w.o r ((lmc hr).elim (fun e => .tail _ (e ▸ .head _)) fun h => (List.mem_singleton.mp h) ▸ .head _), .cons (fun r hr e => (List.pairwise_cons.mp w.pw).1 q (.head _) ((List.mem_singleton.mp hr) ▸ e.symm)) (.cons (fun _ h => nomatch h) .nil)⟩
theorem column_gen (xl : 0 < s.next) (q : IsSrc (s.objs 0)) : Cal (dBW clRow) (cl (n + 7) 937 [.ref 0] s) 0 IsSrc s (HasW ClT 18) := by
 have w0 := Fw.start xl q
 refine (name_gen (n := n+3) xl q).elim fun nm s1 e1 m1 _ => ?_
 have w1 := w0.mv m1
 refine (type_gen (n := n+3) w1.x_lt w1.q).elim fun ty s2 e2 m2 p2 => p2.elim fun ta r2 ws2 l2 => ?_
 have w2 := w1.mv m2
 refine (named_gen (n := n+4) nm.2 w2.x_lt w2.q).elim fun v s3 e3 m3 p3 => ?_
 have w3 := (w2.mv m3).nw (.list (SL [v]))
 have h1 : ([v] ++ ty.2).length ≤ 8 := len_app (a := 1) (nlr _) l2
 have h2 := to_cap h1
 have w4 := w3.nw (.list (SL ([v] ++ ty.2)))
 have w5 := w4.nw (.list (SL []))
 refine (take_nat (n := n+5) (top := 3) (by decide) w5.x_lt w5.q).elim fun i s4 e4 m4 p4 => ?_
 have w6 := w5.mv m4
 have hN2 : i ≤ 2 := Nat.le_of_lt_succ p4
 refine (for_run (c := cN KK (n + 6)) (sc := fS 937) (t := (lpP (stAt 937 3)).1) (b := (lpP (stAt 937 3)).2) (E := [(so "pairs", .ref (s3.next + 2)), (so "words", .ref (s3.next + 1)), (so "words", dW ty.2), (so "told", .d (optD ty.1.1)), (so "name", dS nm.1), (so "source", .ref 0)])
  (pre := fun a => [(so "source", .ref 0), (so "name", dS nm.1), (so "told", .d (optD ty.1.1)), (so "pairs", .ref (s3.next + 2)), (so "words", .ref a.2.2)])
  (it_rng (k := (i : Int)) (n := i) rfl (nlt hN2 (by decide : 2 ≤ 64))) (fun x E => bf_name (x := so "turn") (fun v le => by kernel_rfl) _ E) (I := Co nm ta (s3.next + 2) 18 2 s) (a := ([], [v] ++ ty.2, s3.next + 1)) ?_ rfl ⟨w6.sub (.cons_cons _ (.cons_cons _ (List.nil_sublist _))), ⟨[], .nil, ?_⟩, ?_, ?_⟩).elim fun a E u e5 j => ?_
 ·intro x r a E u I
  have w3 := I.w
  refine (constraint_gen (n := n) w3.x_lt w3.q).elim fun p s5 e6 m5 p5 => p5.elim fun ts r5 ws5 l5 => ?_
  have w4 := w3.mv m5
  have h4 : (a.2.1 ++ p.2).length + 5 * r.length ≤ 18 := len_more' I.b l5
  have h5 := len_cap h4
  have w5 := w4.nw (.list (SL (a.2.1 ++ p.2)))
  refine I.f.elim fun t0 f => ?_
  have hw : Ws (a.2.1 ++ p.2) (.free nm.1 :: (ta ++ (t0 ++ ts))) := by rw [← lap]; exact f.2.app ws5
  have hn : a.1.length + r.length < 2 := I.n
  cases p with | mk o ys =>
  cases o with
  | none =>
   exact ⟨(a.1, a.2.1 ++ ys, s5.next), [(so "words", .ref s5.next), (so "more", dW ys), (so "pair", .d .none), (so "turn", .d (.int (x : Int))), (so "source", .ref 0), (so "name", dS nm.1), (so "told", .d (optD ty.1.1)), (so "pairs", .ref (s3.next + 2)), (so "words", .ref a.2.2)] ++ E, _, xs_on (Tr.v (e6) <| Tr.v (addw (x := (a.snd.fst)) (y := ((none, ys).snd)) (lof (w4.g 1 rfl)) (lof_w ((none, ys).snd)) h5) <| Tr.ret _) (by kernel_rfl), rfl, (w5.sub (.cons_cons _ (.cons_cons _ (List.nil_sublist _)))).swp, ⟨_, (lan a.1) ▸ f.1.app r5, hw⟩, h4, nol hn⟩
  | some c =>
   have h6 : ((a.1.map ccRow).map MV.d).length < cap := by rw [llm, llm]; exact lll (nll (nla _ _) hn) (by decide)
   have sn := map_snoc ccRow a.1 c
   have w6 := w5.put 1 rfl (.list (((a.1 ++ [c]).map ccRow).map .d))
   exact ⟨(a.1 ++ [c], a.2.1 ++ ys, s5.next), [(so "words", .ref s5.next), (so "more", dW ys), (so "pair", .d (ccRow c)), (so "turn", .d (.int (x : Int))), (so "source", .ref 0), (so "name", dS nm.1), (so "told", .d (optD ty.1.1)), (so "pairs", .ref (s3.next + 2)), (so "words", .ref a.2.2)] ++ E, _, xs_on (Tr.v (e6) <| Tr.v (addw (x := (a.snd.fst)) (y := ((some c, ys).snd)) (lof (w4.g 1 rfl)) (lof_w ((some c, ys).snd)) h5) <| Tr.v (app_m (w5.g 1 rfl)) <| Tr.v (app_e (v := (.d (occD (some c, ys).fst))) (w5.g 1 rfl) h6 sn) <| Tr.ret _) (by kernel_rfl), rfl, (w6.sub (.cons_cons _ (.cons_cons _ (List.nil_sublist _)))).swp, ⟨_, f.1.app r5, hw⟩, h4, by rw [lla, Nat.add_right_comm]; exact hn⟩
 ·rw [lan]; exact ws_cons p3 ws2
 ·exact Nat.add_le_add h1 (nlt (noe (by rw [List.length_range])) (Nat.mul_le_mul_left 5 hN2))
 ·rw [List.length_range]; exact (Nat.zero_add i).symm ▸ hN2
 ·have w7 := j.w
  have h0 : (a.1.map ccRow).length ≤ cap := by rw [llm]; exact to_cap (nlt (nla _ _) j.n)
  have w8 := w7.nw (.list [.d (clRow ⟨nm, ty.1, a.1⟩), .ref a.2.2])
  refine j.f.elim fun ts f => ?_
  exact w8.rP (⟨nm, ty.1, a.1⟩, a.2.1) ⟨_, .mk r2 f.1, f.2, j.b⟩ 0 2 rfl rfl (Tr.v (e1) <| Tr.v (e2) <| Tr.v (e3) <| Tr.v (mkl (l := (SL [v])) (lbe rfl)) <| Tr.v (addw (x := ([v])) (y := (ty.snd)) (lof (w3.g 0 rfl)) (lof_w (ty.snd)) h2) <| Tr.v (mkl (l := (SL [])) (lbe rfl)) <| Tr.v (e4) <| Tr.x (e5) <| Tr.v (ty_tup (lof (w7.g 0 rfl)) h0) <| Tr.v (mkl (l := ([MV.d (clRow { nm := nm, ty := ty.fst, cs := a.fst }), MV.ref a.snd.snd])) (lbe rfl)) <| Tr.ret _) (by kernel_rfl)
end
section
variable {s : MSt} {n : Nat}
noncomputable def seps : List (List Nat) := [cp " ", cp " ", cp " ", cp "\n", cp "  ", cp " /* , */ ", cp " -- (\n"]
theorem sep_lex : ∀ x ∈ seps, LexF x [] := by
 have b1 : LexF (cp " ") [] := lx_bl
 intro x h
 refine (lmc h).elim (fun e => e ▸ b1) fun h => (lmc h).elim (fun e => e ▸ b1) fun h => (lmc h).elim (fun e => e ▸ b1) fun h => (lmc h).elim (fun e => ?_) fun h => (lmc h).elim (fun e => ?_) fun h => (lmc h).elim (fun e => ?_) fun h => ?_
 ·subst e; exact fun _ _ t => .blank (c := 10) (.inr rfl) t
 ·subst e; exact fun _ _ t => .blank (c := 32) (.inl rfl) (.blank (c := 32) (.inl rfl) t)
 ·subst e; exact fun _ _ t => .blank (c := 32) (.inl rfl) (.note (.blank (c := 32) (.inl rfl) t))
 ·cases List.mem_singleton.mp h; exact fun _ _ t => .blank (c := 32) (.inl rfl) (.line (.blank (c := 10) (.inr rfl) t))
theorem sep_ok : ∀ x ∈ seps, (sepB x && (!x.isEmpty && Nat.ble x.length 10)) = true := by decide +kernel
structure Tx (w0 : List Nat) (ws : List (List Nat)) (all : List Tk) (s : MSt) (l : List (List Nat)) (a : List Nat) (u : MSt) : Prop where
 w : Fw 0 IsSrc s [] u
 f : ∃ d tr, LexU a d ∧ Ws l tr ∧ d ++ tr = all
 e : ∃ p w y, w0 :: ws = p ++ w :: l ∧ a = y ++ w
 b : a.length + 50 * l.length ≤ 6000
theorem ws_inv {w : List Nat} {ws : List (List Nat)} {ts : List Tk} {G : Prop} (h : Ws (w :: ws) ts) (k : ∀ t r, ts = t ++ r → Wr w t → Ws ws r → G) : G := by
 cases h with | cons a b => exact k _ _ rfl a b
theorem text_gen {w0 : List Nat} {ws : List (List Nat)} {ts : List Tk} (h : Ws (w0 :: ws) ts) (hl : ws.length ≤ 110) (xl : 0 < s.next) (q : IsSrc (s.objs 0)) : Cal dS (cl (n + 4) 883 [.ref 0, dW (w0 :: ws)] s) 0 IsSrc s fun t => (Lx t ts ∧ t.length ≤ 6000) ∧ ∃ p w y, w0 :: ws = p ++ [w] ∧ t = y ++ w := by
 have w0' := Fw.start xl q
 have hc : (w0 :: ws).length ≤ cap := nlt (Nat.succ_le_succ hl) (by decide)
 have w1 := w0'.nw (.list (SL ws))
 have w2 := w1.put 0 rfl .gone
 refine (for_run (s := nw s (.list (SL ws))) (s0 := pt (nw s (.list (SL ws))) s.next .gone) (v := .ref s.next) (rg := false) (c := cN KK (n + 3)) (sc := fS 883) (t := (lpP (stAt 883 1)).1) (b := (lpP (stAt 883 1)).2) (E := [(so "text", dS w0), (so "source", .ref 0), (so "words", dW (w0 :: ws))])
  (pre := fun a => [(so "source", .ref 0), (so "text", dS a)]) (l := ws) (it := dS)
  (it_ref (w1.g 0 rfl)) (fun x E => bf_name (x := so "word") (fun v le => by kernel_rfl) _ E) (I := Tx w0 ws ts s) (a := w0) ?_ rfl ⟨w2.sub (List.nil_sublist _), ?_, ⟨[], w0, [], rfl, rfl⟩, ?_⟩).elim fun a E u e5 j => ?_
 ·intro x r a E u I
  have v3 := I.w
  have w3 := v3.nw (.list (SL seps))
  refine (one_str (n := n+1) w3.x_lt w3.q (w3.g 0 rfl) (w3.lt 0 rfl) (w3.ne 0 rfl) (by decide)).elim fun sp s1 e1 m1 p1 => ?_
  have w4 := w3.mv m1
  have k := sep_ok sp p1
  have k1 := (Bool.and_eq_true _ _).mp k
  have k2 := (Bool.and_eq_true _ _).mp k1.2
  refine I.f.elim fun d f => f.elim fun tr f => ws_inv f.2.1 fun tx tr' et hx hr => ?_
  have h1 : (a ++ sp).length + (40 + 50 * r.length) ≤ 6000 := len_more (k := 10) (by rw [← Nat.add_assoc 10 40, Nat.add_comm (10 + 40)]; exact I.b) (lbe k2.2)
  have h2 := len_cap h1
  have h3 : (a ++ sp ++ x).length + 50 * r.length ≤ 6000 := len_more h1 hx.len
  have h4 := len_cap h3
  have w5 := w4.sub (List.nil_sublist _)
  refine ⟨a ++ sp ++ x, [(so "text", dS (a ++ sp ++ x)), (so "word", dS x), (so "source", .ref 0), (so "text", dS a)] ++ E, s1, xs_on (Tr.v (mkl (l := (SL seps)) (lbe rfl)) <| Tr.v (e1) <| Tr.v (adds (x := (a)) (y := (sp)) h2) <| Tr.v (adds (x := (a ++ sp)) (y := (x)) h4) <| Tr.ret _) (by kernel_rfl), rfl, w5, ⟨d ++ tx, tr', ?_, hr, by rw [lap, ← et]; exact f.2.2⟩, ?_, h3⟩
  ·have z := (f.1.f (sep_lex sp p1) k1.1 (by intro e; rw [e] at k2; cases k2.1)).cat hx.lex
   rwa [lan] at z
  ·exact I.e.elim fun p z => z.elim fun w z => z.elim fun y z => ⟨p ++ [w], x, a ++ sp, by rw [z.1, lap]; rfl, rfl⟩
 ·exact ws_inv h fun t r e a b => ⟨t, r, a.lex, b, e.symm⟩
 ·exact ws_inv h fun t r e a b => nlt (Nat.add_le_add a.len (Nat.mul_le_mul_left 50 hl)) (by decide)
 ·refine j.f.elim fun d f => f.elim fun tr f => ?_
  have et : tr = [] := by cases f.2.1; rfl
  have ed : d = ts := by rw [← f.2.2, et, lan]
  have w9 := j.w
  exact w9.rD a ⟨⟨ed ▸ f.1.all, j.b⟩, j.e⟩ (Tr.v (gi_lst (l := (SD (w0 :: ws))) (k := 0) (by decide) rfl) <| Tr.v (gsw (x := (w0 :: ws)) (lof_w (w0 :: ws)) (lo := (some (.int 1))) (hi := none) rfl rfl hc) <| Tr.x (e5) <| Tr.ret _) (by kernel_rfl)
end
section
variable {s : MSt} {n : Nat}
noncomputable section
abbrev kIF : Kw := ⟨cp "IF", by decide⟩
abbrev kEX : Kw := ⟨cp "EXISTS", by decide⟩
abbrev kDROP : Kw := ⟨cp "DROP", by decide⟩
abbrev kTAB : Kw := ⟨cp "TABLE", by decide⟩
abbrev kIND : Kw := ⟨cp "INDEX", by decide⟩
abbrev kCRE : Kw := ⟨cp "CREATE", by decide⟩
abbrev kON : Kw := ⟨cp "ON", by decide⟩
def drW (b : Bool) : Kw := match b with | true => kIND | false => kTAB
end
inductive SmW (p : Sm × List (List Nat)) : Prop
 | mk (k0 k1 : List Nat) (tr : List Tk) (x : Sz k0 k1 100 p.2 tr) (t : StT p.1 k0 k1 tr) (z : (∃ ws, p.2 = ws ++ [[41]]) ∨ k0 = cp "DROP")
theorem Sz.le {k0 k1 : List Nat} {b c : Nat} {z : List (List Nat)} {tr : List Tk} (x : Sz k0 k1 b z tr) (h : Nat.ble b c = true) : Sz k0 k1 c z tr := ⟨nlt x.l (lbe h), x.h⟩
theorem two_keys {k0 k1 : Kw} {ys : List (List Nat)} (h : All2 KR [k0, k1] ys) : Sz k0.1 k1.1 2 ys [] := by
 cases h with | mk a r e h0 h =>
 cases h with | mk b r' e' h1 h =>
 cases e; cases e'; cases h
 exact ⟨nlr _, a, b, [], rfl, h0, h1, .nil⟩
theorem one_key {k0 : Kw} {ys : List (List Nat)} {G : Prop} (h : All2 KR [k0] ys) (k : ∀ a, ys = [a] → Wr a [.key k0.1] → G) : G := by
 cases h with | mk a r e h0 h =>
 cases e; cases h
 exact k a rfl h0
theorem drop_gen (xl : 0 < s.next) (q : IsSrc (s.objs 0)) : Cal (dBW stRow) (cl (n + 6) 965 [.ref 0] s) 0 IsSrc s SmW := by
 have w0 := Fw.start xl q
 have w1 := w0.nw (.list (SL [drKind false, drKind true]))
 refine (one_str (n := n+3) w1.x_lt w1.q (w1.g 0 rfl) (w1.lt 0 rfl) (w1.ne 0 rfl) (by decide)).elim fun kd s1 e1 m1 p1 => ?_
 have w2 := w1.mv m1
 have w3 := w2.nw (.list (KL [kIF, kEX]))
 refine if_gen (n := n) (lbe rfl) w3.x_lt w3.q (w3.g 0 rfl) (w3.lt 0 rfl) (w3.ne 0 rfl) fun o ex s2 e2 m2 p2 => p2.has.elim fun t2 r2 ws2 l2 => ?_
 have w4 := (w3.put 0 rfl o).mv m2
 refine (name_gen (n := n+2) w4.x_lt w4.q).elim fun nm s3 e3 m3 _ => ?_
 have w5 := w4.mv m3
 have fin : ∀ ix, kd = drKind ix → Cal (dBW stRow) (cl (n + 6) 965 [.ref 0] s) 0 IsSrc s SmW := by
  intro ix hk
  subst hk
  have hu : upperA (drKind ix) = (drW ix).1 := by cases ix <;> decide
  have ha : ascii (drKind ix) = true := by cases ix <;> decide
  have hl : (drKind ix).length ≤ cap := by cases ix <;> exact lbe (by decide)
  have w6 := w5.nw (.list (KL [kDROP, drW ix]))
  refine (keys_all (n := n+1) (lbe rfl) w6.x_lt w6.q (w6.g 0 rfl) (w6.ne 0 rfl)).elim fun ys s4 e4 m4 p4 => ?_
  have w7 := (w6.put 0 rfl .gone).mv m4
  refine (two_keys p4).gen ws2 l2 fun z1 ez1 x1 => ?_
  have w8 := w7.nw (.list (SL z1))
  refine (named_gen (n := n+3) nm.2 w8.x_lt w8.q).elim fun v s5 e5 m5 p5 => ?_
  have w9 := (w8.mv m5).nw (.list (SL [v]))
  refine x1.gen (Ws.one p5) (c := 1) (nlr _) fun z2 ez2 x2 => ?_
  have w10 := w9.nw (.list (SL z2))
  have w11 := w10.nw (.list [.d (stRow (.drop ix nm ex.1)), .ref (s5.next + 1)])
  exact w11.rP (.drop ix nm ex.1, z2) ⟨_, _, _, x2.le rfl, by cases ix <;> (rw [r2]; exact .drop), .inr rfl⟩ 0 1 rfl rfl (Tr.v (mkl (l := (SL [drKind false, drKind true])) (lbe rfl)) <| Tr.v (e1) <| Tr.v (mkl (l := (KL [kIF, kEX])) (lbe rfl)) <| Tr.v (e2) <| Tr.v (e3) <| Tr.v (sm_upper_e ha hl hu) <| Tr.v (mkl (l := (KL [kDROP, drW ix])) (lbe rfl)) <| Tr.v (e4) <| Tr.v (addw_e (lof_w (ys)) (lof_w (ex.snd)) ez1 (x1.cap rfl)) <| Tr.v (e5) <| Tr.v (mkl (l := (SL [v])) (lbe rfl)) <| Tr.v (addw_e (lof (w9.g 1 rfl)) (lof (w9.g 0 rfl)) ez2 (x2.cap rfl)) <| Tr.v (mkl (l := ([MV.d (stRow (Sm.drop ix nm ex.fst)), MV.ref (s5.next + 1)])) (lbe rfl)) <| Tr.ret _) (by kernel_rfl)
 exact (lmc p1).elim (fin false) fun h => fin true (List.mem_singleton.mp h)
end
section
variable {s : MSt} {n : Nat}
noncomputable abbrev kINE : List Kw := [kIF, kNOT, kEX]
theorem gen {α : Type} {G : Prop} (x : α) (k : ∀ z, x = z → G) : G := k x rfl
theorem index_gen (xl : 0 < s.next) (q : IsSrc (s.objs 0)) : Cal (dBW stRow) (cl (n + 8) 958 [.ref 0] s) 0 IsSrc s SmW := by
 have w0 := Fw.start xl q
 have w1 := w0.nw (.list (KL [kUNIQ]))
 refine if_gen (n := n+2) (lbe rfl) w1.x_lt w1.q (w1.g 0 rfl) (w1.lt 0 rfl) (w1.ne 0 rfl) fun o1 un s1 e1 m1 p1 => p1.has.elim fun t1 r1 ws1 l1 => ?_
 have w2 := (w1.put 0 rfl o1).mv m1
 have w3 := w2.nw (.list (KL kINE))
 refine if_gen (n := n+2) (lbe rfl) w3.x_lt w3.q (w3.g 0 rfl) (w3.lt 0 rfl) (w3.ne 0 rfl) fun o2 mi s2 e2 m2 p2 => p2.has.elim fun t2 r2 ws2 l2 => ?_
 have w4 := (w3.put 0 rfl o2).mv m2
 refine (name_gen (n := n+4) w4.x_lt w4.q).elim fun nm s3 e3 m3 _ => ?_
 have w5 := w4.mv m3
 refine (name_gen (n := n+4) w5.x_lt w5.q).elim fun tb s4 e4 m4 _ => ?_
 have w6 := w5.mv m4
 refine (columns_gen (n := n) w6.x_lt w6.q).elim fun xs s5 e5 m5 p5 => p5.1.elim fun t5 r5 ws5 l5 => ?_
 have w7 := (w6.mv m5).nw (.list (KL [kCRE]))
 refine (keys_all (n := n+3) (lbe rfl) w7.x_lt w7.q (w7.g 0 rfl) (w7.ne 0 rfl)).elim fun y1 s6 e6 m6 p6 => ?_
 have w8 := (w7.put 0 rfl .gone).mv m6
 refine gen (y1 ++ un.2) fun z1 ez1 => ?_
 have hz1 : z1.length ≤ cap := ez1 ▸ to_cap (len_app (noe (All2.length _ p6).symm) l1)
 have w9 := w8.nw (.list (SL z1))
 have w10 := w9.nw (.list (KL [kIND]))
 refine (keys_all (n := n+3) (lbe rfl) w10.x_lt w10.q (w10.g 0 rfl) (w10.ne 0 rfl)).elim fun y2 s7 e7 m7 p7 => ?_
 have w11 := (w10.put 0 rfl .gone).mv m7
 refine gen (z1 ++ y2) fun z2 ez2 => ?_
 have x2 : Sz (cp "CREATE") (uqK un.1) 3 z2 (uqT un.1) := by
  subst ez2 ez1
  refine one_key p6 fun a ea ha => one_key p7 fun b eb hb => p1.elim (fun h => ?_) fun h => one_key h.2 fun d ed hd => ?_
  ·rw [ea, eb, h.1, h.2]; exact ⟨Nat.le_succ 2, a, b, [], rfl, ha, hb, .nil⟩
  ·rw [ea, eb, h.1, ed]; exact ⟨nlr _, a, d, [b], rfl, ha, hd, .one hb⟩
 have w12 := w11.nw (.list (SL z2))
 refine x2.gen ws2 l2 fun z3 ez3 x3 => ?_
 have w13 := w12.nw (.list (SL z3))
 refine (named_gen (n := n+5) nm.2 w13.x_lt w13.q).elim fun v s8 e8 m8 p8 => ?_
 have w14 := (w13.mv m8).nw (.list (SL [v]))
 refine x3.gen (Ws.one p8) (c := 1) (nlr _) fun z4 ez4 x4 => ?_
 have w15 := w14.nw (.list (SL z4))
 have w16 := w15.nw (.list (KL [kON]))
 refine (keys_gen (n := n+3) (lbe rfl) w16.x_lt w16.q (w16.g 0 rfl) (w16.ne 0 rfl)).elim fun y3 s9 e9 m9 p9 => ?_
 have w17 := (w16.put 0 rfl .gone).mv m9
 refine x4.gen p9.1 (noe p9.2) fun z5 ez5 x5 => ?_
 have w18 := w17.nw (.list (SL z5))
 refine (named_gen (n := n+5) tb.2 w18.x_lt w18.q).elim fun u s10 e10 m10 p10 => ?_
 have w19 := (w18.mv m10).nw (.list (SL [u]))
 refine x5.gen (Ws.one p10) (c := 1) (nlr _) fun z6 ez6 x6 => ?_
 have w20 := w19.nw (.list (SL z6))
 refine x6.gen ws5 l5 fun z7 ez7 x7 => ?_
 have w21 := w20.nw (.list (SL z7))
 have w22 := w21.nw (.list [.d (stRow (.index nm tb xs.1 un.1 mi.1)), .ref (s10.next + 2)])
 exact w22.rP (.index nm tb xs.1 un.1 mi.1, z7) ⟨_, _, _, x7.le rfl, by rw [r2]; exact .index r5, .inl (p5.2.elim fun ws e => ⟨z6 ++ ws, by rw [← ez7, e, lap]⟩)⟩ 0 1 rfl rfl (Tr.v (mkl (l := (KL [kUNIQ])) (lbe rfl)) <| Tr.v (e1) <| Tr.v (mkl (l := (KL kINE)) (lbe rfl)) <| Tr.v (e2) <| Tr.v (e3) <| Tr.v (e4) <| Tr.v (e5) <| Tr.v (mkl (l := (KL [kCRE])) (lbe rfl)) <| Tr.v (e6) <| Tr.v (addw_e (lof_w (y1)) (lof_w (un.snd)) ez1 hz1) <| Tr.v (mkl (l := (KL [kIND])) (lbe rfl)) <| Tr.v (e7) <| Tr.v (addw_e (lof (w11.g 1 rfl)) (lof_w (y2)) ez2 (x2.cap rfl)) <| Tr.v (addw_e (lof (w12.g 0 rfl)) (lof_w (mi.snd)) ez3 (x3.cap rfl)) <| Tr.v (e8) <| Tr.v (mkl (l := (SL [v])) (lbe rfl)) <| Tr.v (addw_e (lof (w14.g 1 rfl)) (lof (w14.g 0 rfl)) ez4 (x4.cap rfl)) <| Tr.v (mkl (l := (KL [kON])) (lbe rfl)) <| Tr.v (e9) <| Tr.v (addw_e (lof (w17.g 1 rfl)) (lof_w (y3)) ez5 (x5.cap rfl)) <| Tr.v (e10) <| Tr.v (mkl (l := (SL [u])) (lbe rfl)) <| Tr.v (addw_e (lof (w19.g 1 rfl)) (lof (w19.g 0 rfl)) ez6 (x6.cap rfl)) <| Tr.v (addw_e (lof (w20.g 0 rfl)) (lof_w (xs.snd)) ez7 (x7.cap rfl)) <| Tr.v (mkl (l := ([MV.d (stRow (Sm.index nm tb xs.fst un.fst mi.fst)), MV.ref (s10.next + 2)])) (lbe rfl)) <| Tr.ret _) (by kernel_rfl)
end
section
variable {s : MSt} {n : Nat}
noncomputable def tcW (b : Bool) : List Kw := match b with | true => [kPRIM, kKEY] | false => [kUNIQ]
theorem sm_split {l : List Nat} {q : Nat} {L : List MV} (h : l.length ≤ cap) (e : (splitL q l).map (fun w => MV.d (.str w)) = L) (h2 : L.length ≤ cap) : strMeth .split l [dS [q]] s = .ok (.ref s.next) (nw s (.list L)) := by
 show (if cap < l.length then M.bad else mkList ((splitL q l).map fun w => .d (.str w))) s = _
 rw [if_neg (Nat.not_lt.mpr h), e]; exact mkl h2
theorem Fw.sub3 {x : Nat} {Q : MObj → Prop} {t : MSt} {p q r : Nat × MObj} (w : Fw x Q s [p, q, r] t) : Fw x Q s [q, p, r] t :=
 ⟨w.toMv, w.xl, fun y hy => w.o y ((lmc hy).elim (fun e => .tail _ (e ▸ .head _)) fun h => (lmc h).elim (fun e => e ▸ .head _) fun h => .tail _ (.tail _ h)), by
  have a := List.pairwise_cons.mp w.pw
  have b := List.pairwise_cons.mp a.2
  exact .cons (fun y hy => (lmc hy).elim (fun e => e ▸ (a.1 q (.head _)).symm) (b.1 y)) (.cons (fun y hy => a.1 y (.tail _ hy)) b.2)⟩
theorem table_gen (xl : 0 < s.next) (q : IsSrc (s.objs 0)) : Cal (dBW stRow) (cl (n + 8) 951 [.ref 0] s) 0 IsSrc s SmW := by
 have w0 := Fw.start xl q
 have w1 := w0.nw (.list (KL kINE))
 refine if_gen (n := n+2) (lbe rfl) w1.x_lt w1.q (w1.g 0 rfl) (w1.lt 0 rfl) (w1.ne 0 rfl) fun o1 mi s1 e1 m1 p1 => p1.has.elim fun t1 r1 ws1 l1 => ?_
 have w2 := (w1.put 0 rfl o1).mv m1
 refine (name_gen (n := n+4) w2.x_lt w2.q).elim fun nm s2 e2 m2 _ => ?_
 have w3 := w2.mv m2
 have w4 := w3.nw (.list (SL []))
 have w5 := w4.nw (.list (SL []))
 refine (take_nat (n := n+6) (top := 2) (by decide) w5.x_lt w5.q).elim fun i s3 e3 m3 p3 => ?_
 have w6 := w5.mv m3
 have hN2 : 1 + i ≤ 2 := by rw [Nat.add_comm]; exact p3
 have hN : Nat.ble (1 + i) 100 = true := Nat.ble_eq_true_of_le (nlt hN2 (by decide))
 refine (for_run (c := cN KK (n + 7)) (sc := fS 951) (t := (lpP (stAt 951 2)).1) (b := (lpP (stAt 951 2)).2) (E := [(so "inside", .ref (s2.next + 1)), (so "columns", .ref s2.next), (so "name", dS nm.1), (so "words", dW mi.2), (so "missing", .d (.bool mi.1)), (so "source", .ref 0)])
  (pre := fun a => [(so "source", .ref 0), (so "name", dS nm.1), (so "missing", .d (.bool mi.1)), (so "words", dW mi.2), (so "columns", .ref s2.next), (so "inside", .ref a.2.2)])
  (it_rng (k := 1 + (i : Int)) (n := 1 + i) rfl (nlt (Nat.add_le_add_left (nol p3) 1) (by decide : 1 + 2 ≤ 64))) (fun x E => bf_name (x := so "turn") (fun v le => by kernel_rfl) _ E) (I := Ga ClT clRow s2.next 19 38 (1 + i) s) (a := ([], [], s2.next + 1)) ?_ rfl ⟨w6.sub (.cons_cons _ (.cons_cons _ (List.nil_sublist _))), .inl ⟨rfl, rfl⟩, ?_, ?_⟩).elim fun a E u e4 j => ?_
 ·intro x r a E u I
  have w3 := I.w
  refine (column_gen (n := n) w3.x_lt w3.q).elim fun p s4 e5 m5 p5 => p5.elim fun ts r5 ws5 l5 => ?_
  have w4 := w3.mv m5
  have h1 : ((a.1.map clRow).map MV.d).length < cap := by rw [llm, llm]; exact cnt_lt I.n hN
  have sn := map_snoc clRow a.1 p.1
  have w5 := w4.put 1 rfl (.list (((a.1 ++ [p.1]).map clRow).map .d))
  have w6 := w5.nw (.list (SL [[44]]))
  have h2 : (a.2.1 ++ [[44]]).length + (18 + 19 * r.length) ≤ 38 := len_one I.b
  have h3 := len_cap h2
  have h4 : (a.2.1 ++ [[44]] ++ p.2).length + 19 * r.length ≤ 38 := len_more h2 l5
  have h5 := len_cap h4
  have w7 := w6.nw (.list (SL (a.2.1 ++ [[44]])))
  have w8 := w7.nw (.list (SL (a.2.1 ++ [[44]] ++ p.2)))
  refine ⟨(a.1 ++ [p.1], a.2.1 ++ [[44]] ++ p.2, s4.next + 2), [(so "inside", .ref (s4.next + 2)), (so "more", dW p.2), (so "row", .d (clRow p.1)), (so "turn", .d (.int (x : Int))), (so "source", .ref 0), (so "name", dS nm.1), (so "missing", .d (.bool mi.1)), (so "words", dW mi.2), (so "columns", .ref s2.next), (so "inside", .ref a.2.2)] ++ E, _, xs_on (Tr.v (e5) <| Tr.v (app_m (w4.g 1 rfl)) <| Tr.v (app_e (v := (.d (clRow p.fst))) (w4.g 1 rfl) h1 sn) <| Tr.v (mkl (l := (SL [[44]])) (lbe rfl)) <| Tr.v (addw (x := (a.snd.fst)) (y := ([[44]])) (lof (w6.g 1 rfl)) (lof (w6.g 0 rfl)) h3) <| Tr.v (addw (x := (a.snd.fst ++ [[44]])) (y := (p.snd)) (lof (w7.g 0 rfl)) (lof_w (p.snd)) h5) <| Tr.ret _) (by kernel_rfl), rfl, ⟨w8.sub (.cons_cons _ (.cons _ (.cons _ (.cons _ (.cons_cons _ .slnil))))), I.f.snoc r5 ws5, h4, cnt_step I.n⟩⟩
 ·exact nlt (noe (by rw [List.length_range]; exact Nat.zero_add _)) (Nat.mul_le_mul_left 19 hN2)
 ·exact (Nat.zero_add _).trans (List.length_range ..)
 have jn : a.1.length = 1 + i := j.n
 refine j.f.elim (fun f => absurd jn (by rw [f.1]; exact nnl (lll Nat.zero_lt_one (nla 1 i)))) fun f => f.elim fun ins f => f.elim fun ta f => ?_
 have hx : a.1.length ≤ 2 := jn ▸ hN2
 have hne : a.1 ≠ [] := fun e => absurd jn (by rw [e]; exact nnl (lll Nat.zero_lt_one (nla 1 i)))
 have hcol : (a.1.map clRow).length ≤ cap := by rw [llm]; exact to_cap hx
 have w7 := j.w
 have w8 := w7.nw (.list (SL []))
 have tail : ∀ (m : Nat) (wi : List (List Nat)) (tb : List Tk) (tcs : List Tc) (X : EL) (t : MSt) (w : Fw 0 IsSrc s [(m, .list (SL wi)), (u.next, .list ((tcs.map tcRow).map .d)), (s2.next, .list ((a.1.map clRow).map .d))] t) (wb : ∃ wi', wi = [44] :: wi' ∧ Ws wi' (ta ++ tb)) (hb : FlT TcT tcs tb) (l2 : tcs.length ≤ 1) (lw : wi.length ≤ 53)
   (h1 : exs (cN KK (n + 7)) (fS 951) ((fB 951).take 5) (lk [(so "source", .ref 0)]) s = .ok (.next, lk ([(so "source", .ref 0), (so "name", dS nm.1), (so "missing", .d (.bool mi.1)), (so "words", dW mi.2), (so "columns", .ref s2.next), (so "inside", .ref m), (so "constraints", .ref u.next)] ++ X)) t), Cal (dBW stRow) (cl (n + 8) 951 [.ref 0] s) 0 IsSrc s SmW := by
  intro m wi tb tcs X t w wb hb l2 lw h1
  have w9 := w.nw (.list (KL [kCRE, kTAB]))
  refine (keys_all (n := n+3) (lbe rfl) w9.x_lt w9.q (w9.g 0 rfl) (w9.ne 0 rfl)).elim fun ys s4 e4 m4 p4 => ?_
  have w10 := (w9.put 0 rfl .gone).mv m4
  refine (two_keys p4).gen (r1 ▸ ws1) l1 fun z1 ez1 x1 => ?_
  have w11 := w10.nw (.list (SL z1))
  refine (named_gen (n := n+5) nm.2 w11.x_lt w11.q).elim fun v s5 e5 m5 p5 => ?_
  have w12 := (w11.mv m5).nw (.list (SL [v, [40]]))
  refine x1.gen (ws_cons p5 (Ws.one (wr_sg (c := 40) rfl))) (c := 2) (nlr _) fun z2 ez2 x2 => ?_
  have w13 := w12.nw (.list (SL z2))
  have lw' := to_cap lw
  refine gen (cut wi (some 1) none) fun wc ecw => ?_
  have hwc : Ws wc (ta ++ tb) ∧ wc.length ≤ 53 := by
   subst ecw
   exact wb.elim fun wi' wb => ⟨by rw [wb.1]; exact wb.2, nlt (len_drop _) lw⟩
  have w14 := w13.nw (.list (SL wc))
  refine x2.gen hwc.1 hwc.2 fun z3 ez3 x3 => ?_
  have w15 := w14.nw (.list (SL z3))
  have w16 := w15.nw (.list (SL [[41]]))
  refine x3.gen (Ws.one (wr_sg (c := 41) rfl)) (c := 1) (nlr _) fun z4 ez4 x4 => ?_
  have w17 := w16.nw (.list (SL z4))
  have htc : (tcs.map tcRow).length ≤ cap := by rw [llm]; exact to_cap l2
  have w18 := w17.nw (.list [.d (stRow (.table mi.1 nm a.1 tcs)), .ref (s5.next + 5)])
  exact w18.nP (.table mi.1 nm a.1 tcs, z4) ⟨_, _, _, x4.le rfl, .table f.2.1 hb hx l2, .inl ⟨z3, ez4.symm⟩⟩ 0 1 rfl rfl (.xv (xv_then 5 h1 (xv_run (Tr.v (mkl (l := (KL [kCRE, kTAB])) (lbe rfl)) <| Tr.v (e4) <| Tr.v (addw_e (lof_w (ys)) (lof_w (mi.snd)) ez1 (x1.cap rfl)) <| Tr.v (e5) <| Tr.v (mkl (l := (SL [v, [40]])) (lbe rfl)) <| Tr.v (addw_e (lof (w12.g 1 rfl)) (lof (w12.g 0 rfl)) ez2 (x2.cap rfl)) <| Tr.v (gsw_e (lof (w13.g 4 rfl)) (lo := (some (.int 1))) (hi := none) rfl rfl ecw lw') <| Tr.v (addw_e (lof (w14.g 1 rfl)) (lof (w14.g 0 rfl)) ez3 (x3.cap rfl)) <| Tr.v (mkl (l := (SL [[41]])) (lbe rfl)) <| Tr.v (addw_e (lof (w16.g 1 rfl)) (lof (w16.g 0 rfl)) ez4 (x4.cap rfl)) <| Tr.v (ty_tup (lof (w17.g 10 rfl)) hcol) <| Tr.v (ty_tup (lof (w17.g 9 rfl)) htc) <| Tr.v (mkl (l := ([MV.d (stRow (Sm.table mi.fst nm a.fst tcs)), MV.ref (s5.next + 5)])) (lbe rfl)) <| Tr.ret _) (by kernel_rfl))))
 have lb : a.2.1.length ≤ 38 := j.b
 refine (take_gen (n := n+6) (top := 3) (by decide) w8.x_lt w8.q).elim fun k s4 e5 m4 p4 => ?_
 have w9 := w8.mv m4
 by_cases h : k = 0
 ·subst h
  have w10 := w9.nw (.list (SL [tcKind true, tcKind false]))
  refine (one_str (n := n+5) w10.x_lt w10.q (w10.g 0 rfl) (w10.lt 0 rfl) (w10.ne 0 rfl) (by decide)).elim fun kd s5 e6 m5 p5 => ?_
  have w11 := w10.mv m5
  refine (columns_gen (n := n) w11.x_lt w11.q).elim fun xs s6 e7 m6 p6 => p6.1.elim fun t6 r6 ws6 l6 => ?_
  have w12 := w11.mv m6
  have fin : ∀ pk, kd = tcKind pk → Cal (dBW stRow) (cl (n + 8) 951 [.ref 0] s) 0 IsSrc s SmW := by
   intro pk hk
   subst hk
   have ha : ascii (tcKind pk) = true := by cases pk <;> decide
   have hl : (tcKind pk).length ≤ cap := by cases pk <;> exact lbe (by decide)
   refine gen (upperA (tcKind pk)) fun up hu => ?_
   have hsp : (splitL 32 up).map (fun w => MV.d (.str w)) = KL (tcW pk) := by subst hu; cases pk <;> kernel_rfl
   have hul : up.length ≤ cap := by subst hu; rw [upper_len]; exact hl
   have hkl : (tcW pk).length ≤ 2 := by cases pk <;> decide
   have hkc : (KL (tcW pk)).length ≤ cap := by rw [llm, llm]; exact to_cap hkl
   have w13 := w12.put 1 rfl (.list (([⟨pk, xs.1⟩].map tcRow).map .d))
   have w14 := w13.nw (.list (SL [[44]]))
   refine gen (a.2.1 ++ [[44]]) fun z1 ez1 => ?_
   have l7 : z1.length ≤ 39 := ez1 ▸ len_app (b := 1) lb (nlr _)
   have l7' := to_cap l7
   have w15 := w14.nw (.list (SL z1))
   have w16 := w15.nw (.list (KL (tcW pk)))
   refine (keys_gen (n := n+3) (to_cap hkl) w16.x_lt w16.q (w16.g 0 rfl) (w16.ne 0 rfl)).elim fun ys s7 e8 m7 p7 => ?_
   have w17 := (w16.put 0 rfl .gone).mv m7
   refine gen (z1 ++ ys) fun z2 ez2 => ?_
   have l8 : z2.length ≤ 41 := ez2 ▸ len_app l7 (nlt (noe p7.2) hkl)
   have l8' := to_cap l8
   have w18 := w17.nw (.list (SL z2))
   refine gen (z2 ++ xs.2) fun z3 ez3 => ?_
   have l9 : z3.length ≤ 53 := ez3 ▸ len_app l8 l6
   have l9' := to_cap l9
   have w19 := w18.nw (.list (SL z3))
   refine tail (s7.next + 1) z3 (.sg 44 :: ((KT (tcW pk) ++ t6) ++ [])) [⟨pk, xs.1⟩] _ _ ((w19.sub (.cons_cons _ (.cons _ (.cons _ (.cons _ (.cons _ (.cons _ (.cons_cons _ (.cons _ (.cons_cons _ .slnil)))))))))) ) ?_ (.cons (by cases pk <;> exact .mk r6) .nil) (nlr _) l9 ((xs_on (E := [(so "source", .ref 0)]) (E' := [(so "inside", .ref (s7.next + 1)), (so "more", dW xs.2), (so "rows", .d (.tup (xs.1.map ixRow))), (so "kind", dS (tcKind pk)), (so "constraints", .ref u.next)] ++ ([(so "source", .ref 0), (so "name", dS nm.1), (so "missing", .d (.bool mi.1)), (so "words", dW mi.2), (so "columns", .ref s2.next), (so "inside", .ref a.2.2)] ++ E)) (Tr.v (mkl (l := (KL kINE)) (lbe rfl)) <| Tr.v (e1) <| Tr.v (e2) <| Tr.v (mkl (l := (SL [])) (lbe rfl)) <| Tr.v (mkl (l := (SL [])) (lbe rfl)) <| Tr.v (e3) <| Tr.x (e4) <| Tr.v (mkl (l := (SL [])) (lbe rfl)) <| Tr.v (e5) <| Tr.v (eqi_t (x := 0) (y := 0) (by decide)) <| Tr.v (mkl (l := (SL [tcKind true, tcKind false])) (lbe rfl)) <| Tr.v (e6) <| Tr.v (e7) <| Tr.v (app_m (w12.g 1 rfl)) <| Tr.v (app_r (v := (.d (.tup [(.str (cp "constraint")), (.str (tcKind pk)), (.tup (List.map ixRow xs.fst)), .none]))) (w12.g 1 rfl) (lbe rfl)) <| Tr.v (mkl (l := (SL [[44]])) (lbe rfl)) <| Tr.v (addw_e (lof (w14.g 3 rfl)) (lof (w14.g 0 rfl)) ez1 l7') <| Tr.v (sm_upper_e ha hl hu) <| Tr.v (sm_split (q := 32) hul hsp hkc) <| Tr.v (e8) <| Tr.v (addw_e (lof (w17.g 1 rfl)) (lof_w (ys)) ez2 l8') <| Tr.v (addw_e (lof (w18.g 0 rfl)) (lof_w (xs.snd)) ez3 l9') <| Tr.ret _) (by kernel_rfl)).trans (congrArg (fun l => O.ok (Fl.next, l) _) (lk_pre _ (by exact rfl)).symm))
   subst ez3 ez2 ez1
   refine ⟨ins ++ ([[44]] ++ (ys ++ xs.2)), by rw [f.1]; simp only [lap]; rfl, f.2.2.app (ws_cons (wr_sg rfl) ?_)⟩
   show Ws (ys ++ xs.2) ((KT (tcW pk) ++ t6) ++ [])
   rw [lan]; exact p7.1.app ws6
  exact (lmc p5).elim (fin true) fun h => fin false (List.mem_singleton.mp h)
 ·exact tail a.2.2 a.2.1 [] [] _ _ (w9.sub3) ⟨ins, f.1, (lan ta).symm ▸ f.2.2⟩ .nil (Nat.zero_le _) (nlt lb (by decide)) ((xs_on (E := [(so "source", .ref 0)]) (E' := [(so "constraints", .ref u.next)] ++ ([(so "source", .ref 0), (so "name", dS nm.1), (so "missing", .d (.bool mi.1)), (so "words", dW mi.2), (so "columns", .ref s2.next), (so "inside", .ref a.2.2)] ++ E)) (Tr.v (mkl (l := (KL kINE)) (lbe rfl)) <| Tr.v (e1) <| Tr.v (e2) <| Tr.v (mkl (l := (SL [])) (lbe rfl)) <| Tr.v (mkl (l := (SL [])) (lbe rfl)) <| Tr.v (e3) <| Tr.x (e4) <| Tr.v (mkl (l := (SL [])) (lbe rfl)) <| Tr.v (e5) <| Tr.v (eqi_f h) <| Tr.ret _) (by kernel_rfl)).trans (congrArg (fun l => O.ok (Fl.next, l) _) (lk_pre _ (by exact rfl)).symm))
end
end
section
open PySem
set_option genInjectivity false
set_option genSizeOf false
noncomputable section
structure Wd where
 kind : List Nat
 text : List Nat
 val : D
 place : Nat
noncomputable def wdD (w : Wd) : D := .inst 502 [(so "kind", .str w.kind), (so "text", .str w.text), (so "value", w.val), (so "place", .int w.place)]
noncomputable def sco (t : List Nat) (p q : Nat) : MObj := .inst 607 [(so "text", dS t), (so "place", .d (.int p)), (so "found", .ref q), (so "greatest", .d (.int 0))]
noncomputable def fdO (ws : List Wd) : MObj := .list ((ws.map wdD).map .d)
def TW : Tk → Wd → Prop
 | .key k, w => w.kind = cp "name" ∧ w.text = k
 | .free v, w => w.kind = cp "name" ∧ w.text ∈ ntexts ∧ w.val = .str v
 | .sg c, w => w.kind = cp "sign" ∧ w.text = [c]
 | .nu n, w => w.kind = cp "number" ∧ w.val = .int n
 | .en, w => w.kind = cp "end"
end
structure Nt (s t : MSt) : Prop where
 n : s.next ≤ t.next
 k : ∀ k, k < s.next → t.objs k = s.objs k
section
variable {x : Nat} {Q : MObj → Prop} {s s0 t t' u : MSt} {fs fs' : List (Nat × MObj)} {a n : Nat} {args : List MV} {d : D} {r : O MV} {v : MV} {G : Prop}
theorem Fw.nt (w : Fw x Q s fs t) (h : Nt t t') : Fw x Q s fs t' := w.mv ⟨h.n, fun k h1 _ => h.k k h1, q_of (h.k x w.x_lt) w.q⟩
theorem Nt.back (s : MSt) : Nt s ⟨s.next, above s.next s.objs⟩ := ⟨nlr _, fun _ h => above_lt h⟩
inductive Qt (r : O MV) (v : MV) (s : MSt) : Prop
 | mk (s' : MSt) (e : r = .ok v s') (h : Nt s s')
theorem Qt.elim (c : Qt r v s) (k : ∀ s', r = .ok v s' → Nt s s' → G) : G := by cases c with | mk s' e h => exact k s' e h
inductive Fr (r : O MV) (v : MV) (x : Nat) (Q : MObj → Prop) (s0 : MSt) (fs : List (Nat × MObj)) : Prop
 | mk (u : MSt) (e : r = .ok v u) (w : Fw x Q s0 fs u)
theorem Fr.elim (c : Fr r v x Q s0 fs) (k : ∀ u, r = .ok v u → Fw x Q s0 fs u → G) : G := by cases c with | mk u e w => exact k u e w
theorem Ends.toD (e : Ends a n args u (.d d) t) (hk : T0.keep a = false := by rfl) : cl (n + 1) a args u = .ok (.d d) ⟨t.next, above u.next t.objs⟩ := Eq.trans e (by rw [hk]; rfl)
theorem Ends.toK (e : Ends a n args u v t) (hk : T0.keep a = true := by rfl) : cl (n + 1) a args u = .ok v t := Eq.trans e (by rw [hk]; rfl)
theorem Fw.cut (w : Fw x Q s0 fs u) (w2 : Fw x Q s0 fs' t) (h : fs'.map (·.1) = fs.map (·.1)) : Fw x Q s0 fs' ⟨t.next, above u.next t.objs⟩ :=
 ⟨⟨w2.n, fun k h1 n => (above_lt (lll h1 w.n)).trans (w2.k k h1 n), q_of (above_lt w.x_lt) w2.q⟩, w2.xl,
  fun p hp => (List.mem_map.mp (h ▸ List.mem_map_of_mem hp : p.1 ∈ fs.map (·.1))).elim fun q z => ⟨(above_lt (z.2 ▸ (w.o q z.1).2.2)).trans (w2.o p hp).1, (w2.o p hp).2⟩, w2.pw⟩
theorem Fw.fx (w : Fw x Q s0 fs u) (w2 : Fw x Q s0 fs' t) (e : Ends a n args u (.d d) t) (h : fs'.map (·.1) = fs.map (·.1) := by rfl) (hk : T0.keep a = false := by rfl) : Fr (cl (n + 1) a args u) (.d d) x Q s0 fs' := ⟨_, e.toD hk, w.cut w2 h⟩
theorem sa_of {m k : Nat} {fs : List (Str × MV)} (ho : s.objs m = .inst k fs) {a : Str} {v : MV} {o : MObj} (h : ((T0.cls k).map fun ci => ci.data a) = some true) (hl : Nat.blt fs.length 64 = true) (e : MObj.inst k (setFields fs a v) = o) : mU (setAttr T0 (.ref m) a v) s = .ok (.d .none) (pt s m o) := by
 refine (mes h).elim fun ci z => ?_
 have e2 : setAttr T0 (.ref m) a v s = .ok () (pt s m o) := by
  unfold setAttr; dsimp only; rw [ho]; dsimp only; rw [z.1]; dsimp only
  rw [if_pos ⟨z.2, lbe hl⟩, e]
 unfold mU M.bind; rw [e2]; rfl
theorem gs_se {l r : List Nat} {lo hi : Option D} {a b : Option Nat} (h1 : bound lo = some a) (h2 : bound hi = some b) (e : cut l a b = r) (h : l.length ≤ cap) : getSlice (dS l) lo hi s = .ok (dS r) s := by subst e; exact gs_s h1 h2 h
theorem cap62 : ((cap : Nat) : Int) < 2 ^ 62 := by decide
theorem gi_s {l : List Nat} {k c : Nat} (h : l[k]? = some c) (hk : l.length ≤ cap) : getItem (dS l) (.d (.int k)) s = .ok (dS [c]) s := by
 show pick (fun c => dS [c]) l (k : Int) s = _
 exact gi ⟨Int.natCast_nonneg k, Int.lt_trans (Int.ofNat_lt.mpr (lll (List.getElem?_eq_some_iff.mp h).1 hk)) cap62⟩ h
theorem sm_find {l p : List Nat} {b r : Int} (e : findFrom l p b = r) : strMeth .find l [dS p, .d (.int b)] s = .ok (.d (.int r)) s := by subst e; rfl
theorem len_s {l : List Nat} (h : l.length ≤ cap) : callBi T0 "len" [dS l] s = .ok (.d (.int l.length)) s := by
 show (if l.length ≤ cap then M.pure (MV.d (.int l.length)) else M.bad) s = _
 rw [if_pos h]; rfl
theorem ord_s (c : Nat) : callBi T0 "ord" [dS [c]] s = .ok (.d (.int c)) s := rfl
theorem sm_asc {l : List Nat} {b : Bool} (e : ascii l = b) : strMeth .isascii l [] s = .ok (.d (.bool b)) s := by subst e; rfl
theorem strsOf_SL : ∀ ws : List (List Nat), strsOf (SL ws) = some ws
 | [] => rfl
 | w :: ws => congrArg (Option.map (w :: ·)) (strsOf_SL ws)
theorem sm_join {l z : List Nat} {v : MV} {ws : List (List Nat)} (ho : lOf v s = some (SL ws)) (h : (ws.map (·.length)).sum + ws.length * l.length ≤ cap) (e : joinL l ws = z) (hz : z.length ≤ cap) : strMeth .join l [v] s = .ok (dS z) s := by
 subst e
 have e : (lOf v s).bind strsOf = some ws := by rw [ho]; exact strsOf_SL ws
 show smJoin l v s = _
 unfold smJoin; rw [e]; dsimp only; rw [if_pos h]; exact mks hz
theorem sm_lst {l r : List Nat} (e : lstripZ l = r) (h : r.length ≤ cap) : strMeth .lstrip l [dS [48]] s = .ok (dS r) s := by
 subst e
 show (if (dS [48]).str? = some [48] then mkStr (lstripZ l) else M.bad) s = _
 rw [if_pos (show (dS [48]).str? = some [48] from rfl)]; exact mks h
theorem bnd (k : Nat) : bound (some (.int k)) = some (some k) := by
 show (if 0 ≤ (k : Int) then some (some (k : Int).toNat) else none) = _
 rw [if_pos (Int.natCast_nonneg k)]; rfl
theorem ty_int2 {l : List Nat} (h : (!l.isEmpty && l.all (fun c => 48 ≤ c && c ≤ 57) && decide (l.length ≤ 20)) = true) : callTyp "int" [dS l, .d (.int 10)] s = .ok (.d (.int (numOf l))) s := by
 show (if (10 : Int) = 10 ∧ (!l.isEmpty && l.all (fun c => 48 ≤ c && c ≤ 57) && decide (l.length ≤ 20)) = true then M.pure (MV.d (.int (numOf l))) else M.bad) s = _
 rw [if_pos ⟨rfl, h⟩]; rfl
abbrev Is (o o' : MObj) : Prop := o' = o
noncomputable abbrev dU (_ : Unit) : MV := .d .none
abbrev Go (r : O MV) (x : Nat) (Q : MObj → Prop) (s : MSt) : Prop := Cal dU r x Q s fun _ => True
theorem Fw.goK (w : Fw x Q s fs t) (e : Ends a n args s (.d .none) t) (hk : T0.keep a = true := by rfl) : Go (cl (n + 1) a args s) x Q s := ⟨(), t, e.toK hk, w.toMv, trivial⟩
theorem new_f {c ini : Nat} {fs : List (Str × MV)} {ds : List (Str × D)} (hf : T0.fn c = none) (hc : ((T0.cls c).map fun ci => (ci.init, ci.froz)) = some (ini, true))
  (hi : Go (cl n ini (.ref s.next :: args) (Mine.nw s (.inst c []))) s.next (Is (.inst c fs)) (Mine.nw s (.inst c []))) (hz : ∀ u, frzs 6 fs u = some (ds, u)) : Qt (callGlob (cN KK n) c args s) (.d (.inst c ds)) s := by
 refine hi.elim fun _ u e m _ => (mes hc).elim fun ci z => ⟨⟨u.next, above s.next (upd u.objs s.next .gone)⟩, ?_, ⟨Nat.le_of_succ_le m.n, fun k h => (above_lt h).trans ((uN (nnl h)).trans ((m.k k (Nat.lt_succ_of_lt h) (nnl h)).trans (uN (nnl h))))⟩⟩
 have e1 : callGlob (cN KK n) c args s = newInst (cN KK n) c ci args s := by unfold callGlob; dsimp only; rw [hf, z.1]
 have z1 := Prod.mk.inj z.2
 rw [e1]
 unfold newInst
 show M.bind (cl n ci.init (.ref s.next :: args)) (initM ci.froz c s.next) (Mine.nw s (.inst c [])) = _
 rw [z1.1, z1.2, bind_ok e]
 show frzInst c s.next _ = _
 unfold frzInst
 rw [show u.objs s.next = .inst c fs from m.q]; dsimp only
 rw [if_pos rfl, hz]
end
end
section
open PySem
section
variable {s u : MSt} {n m : Nat}
theorem init_502 {a0 a1 a2 a3 : MV} (hm : m < s.next) (h : s.objs m = .inst 502 []) : Go (cl (n + 1) 464 [.ref m, a0, a1, a2, a3] s) m (Is (.inst 502 [(so "kind", a0), (so "text", a1), (so "value", a2), (so "place", a3)])) s := by
 have w0 := Fw.start (Q := Is (.inst 502 [])) hm h
 have w1 := w0.px (Q' := Is (.inst 502 [(so "kind", a0)])) rfl
 have w2 := w1.px (Q' := Is (.inst 502 [(so "kind", a0), (so "text", a1)])) rfl
 have w3 := w2.px (Q' := Is (.inst 502 [(so "kind", a0), (so "text", a1), (so "value", a2)])) rfl
 have w4 := w3.px (Q' := Is (.inst 502 [(so "kind", a0), (so "text", a1), (so "value", a2), (so "place", a3)])) rfl
 exact w4.goK (.tr (Tr.v (sa_of (a := (so "kind")) (v := (a0)) (o := (MObj.inst 502 [(so "kind", a0)])) w0.q (by kernel_rfl) rfl (by kernel_rfl)) <| Tr.v (sa_of (a := (so "text")) (v := (a1)) (o := (MObj.inst 502 [(so "kind", a0), (so "text", a1)])) w1.q (by kernel_rfl) rfl (by kernel_rfl)) <| Tr.v (sa_of (a := (so "value")) (v := (a2)) (o := (MObj.inst 502 [(so "kind", a0), (so "text", a1), (so "value", a2)])) w2.q (by kernel_rfl) rfl (by kernel_rfl)) <| Tr.v (sa_of (a := (so "place")) (v := (a3)) (o := (MObj.inst 502 [(so "kind", a0), (so "text", a1), (so "value", a2), (so "place", a3)])) w3.q (by kernel_rfl) rfl (by kernel_rfl)) <| Tr.ret _) (by kernel_rfl))
theorem new_502 {k t : List Nat} {v : D} {p : Nat} : Qt (callGlob (cN KK (n + 1)) 502 [dS k, dS t, .d v, .d (.int p)] s) (.d (wdD ⟨k, t, v, p⟩)) s :=
 new_f (by kernel_rfl) (by kernel_rfl) (init_502 (nls _) (uS ..)) fun u => by kernel_rfl
end
section
variable {x : Nat} {Q : MObj → Prop} {s0 s u : MSt} {n m q p : Nat} {t : List Nat} {ws : List Wd}
abbrev Scn (x : Nat) (Q : MObj → Prop) (s0 : MSt) (m q : Nat) (t : List Nat) (p : Nat) (ws : List Wd) (u : MSt) : Prop := Fw x Q s0 [(m, sco t p q), (q, fdO ws)] u
abbrev ScR (r : O MV) (x : Nat) (Q : MObj → Prop) (s0 : MSt) (m q : Nat) (t : List Nat) (p : Nat) (ws : List Wd) : Prop := Fr r (.d .none) x Q s0 [(m, sco t p q), (q, fdO ws)]
theorem gather_run {k tx : List Nat} {v : D} {e : Nat} (w : Scn x Q s0 m q t p ws u) (hw : ws.length < cap) : ScR (cl (n + 2) 527 [.ref m, dS k, dS tx, .d v, .d (.int e)] u) x Q s0 m q t e (ws ++ [⟨k, tx, v, p⟩]) := by
 refine (new_502 (n := n) (k := k) (t := tx) (v := v) (p := p) (s := u)).elim fun s1 e1 h1 => ?_
 have w1 := w.nt h1
 have hl : ((ws.map wdD).map MV.d).length < cap := by rw [llm, llm]; exact hw
 have sn := map_snoc wdD ws ⟨k, tx, v, p⟩
 have w2 := w1.put 1 rfl (fdO (ws ++ [⟨k, tx, v, p⟩]))
 have w3 := w2.put 0 rfl (sco t e q)
 exact w.fx w3 (.tr (Tr.v (fld_of (a := (so "found")) (v := (.ref (q))) (w.g 0 rfl) (by kernel_rfl)) <| Tr.v (app_m (w.g 1 rfl)) <| Tr.v (fld_of (a := (so "place")) (v := (.d (.int (((p) : Nat) : Int)))) (w.g 0 rfl) (by kernel_rfl)) <| Tr.v (e1) <| Tr.v (app_e (v := (.d (wdD { kind := k, text := tx, val := v, place := p }))) (w1.g 1 rfl) hl sn) <| Tr.v (sa_of (a := (so "place")) (v := (.d (.int (((e) : Nat) : Int)))) (o := (sco t e q)) (w2.g 0 rfl) (by kernel_rfl) rfl (by kernel_rfl)) <| Tr.ret _) (by kernel_rfl))
theorem folded_run {w : List Nat} (ha : ascii w = true) (hl : w.length ≤ cap) (w0 : Fw x Q s0 [] u) : Qt (cl (n + 1) 436 [dS w] u) (dS (upperA w)) u :=
 ⟨_, Ends.toD (.tr (Tr.v (sm_asc ha) <| Tr.v (sm_upper (l := (w)) ha hl) <| Tr.ret _) (by kernel_rfl)), .back u⟩
theorem at0 {c : Nat} {r : List Nat} (h : t.drop p = c :: r) : t[p]? = some c ∧ t.drop (p + 1) = r ∧ p < t.length := by
 have e : t[p]? = some c := by rw [← Nat.add_zero p, ← List.getElem?_drop, h]; rfl
 exact ⟨e, by rw [← List.drop_drop, h]; rfl, (List.getElem?_eq_some_iff.mp e).1⟩
theorem at_app {a r : List Nat} (h : t.drop p = a ++ r) : t.drop (p + a.length) = r := by rw [← List.drop_drop, h, List.drop_left]
theorem cutD (t : List Nat) (p k : Nat) : cut t (some p) (some (p + k)) = (t.drop p).take k := by
 show (t.take (p + k)).drop p = _
 rw [List.drop_take, Nat.add_sub_cancel_left]
theorem cut_app {a r : List Nat} (h : t.drop p = a ++ r) : cut t (some p) (some (p + a.length)) = a := by rw [cutD, h, List.take_left]
theorem subAt_iff {p : List Nat} {i : Nat} : Builtin.Str.subAt (⟨t.toArray⟩ : PySem.Str) ⟨p.toArray⟩ i = true ↔ (t.drop i).take p.length = p := by
 unfold Builtin.Str.subAt
 show ((t.toArray.extract i (i + p.toArray.size)) == p.toArray) = true ↔ _
 rw [beq_iff_eq, List.size_toArray, List.extract_toArray, List.extract_eq_drop_take, Nat.add_sub_cancel_left]
 exact ⟨fun h => congrArg Array.toList h, congrArg List.toArray⟩
theorem find_of {p : List Nat} {b k : Nat} (hb : b ≤ k) (hk : k + p.length ≤ t.length) (h1 : (t.drop k).take p.length = p) (h2 : ∀ i, b ≤ i → i < k → (t.drop i).take p.length ≠ p) : findFrom t p b = (k : Int) := by
 have at_ : ∀ i, StrLaws.At (⟨t.toArray⟩ : PySem.Str) ⟨p.toArray⟩ t.length i ↔ i + p.length ≤ t.length ∧ (t.drop i).take p.length = p := fun i => and_congr Iff.rfl subAt_iff
 have hf : fromIndex t.length (b : Int) = b := by
  unfold fromIndex
  rw [if_neg (Int.not_lt.mpr (Int.natCast_nonneg b)), Int.max_eq_right (Int.natCast_nonneg b)]; rfl
 unfold findFrom
 rw [hf, StrLaws.occ_eq]
 have km : k ∈ List.range' b (t.length + 1 - b) := List.mem_range'_1.mpr ⟨hb, by rw [Nat.add_sub_cancel' (Nat.le_succ_of_le (nlt hb (nlt (nla _ _) hk)))]; exact Nat.lt_succ_of_le (nlt (nla _ _) hk)⟩
 refine (StrLaws.occ_first (⟨t.toArray⟩ : PySem.Str) ⟨p.toArray⟩ t.length 1 (nlr _) (List.range' b (t.length + 1 - b)) b fun i hi => (List.mem_range'_1.mp hi).1).elim (fun z => absurd ((at_ k).mpr ⟨hk, h1⟩) (z.2 k km)) fun z => z.elim fun pre z => z.elim fun a z => z.elim fun post z => ?_
 have ea : a = k := by
  have z3 := (at_ a).mp z.2.2.1
  rcases Nat.lt_trichotomy a k with q | q | q
  ·have ha : a ∈ List.range' b (t.length + 1 - b) := by rw [z.1]; exact List.mem_append_right _ (.head _)
   exact absurd z3.2 (h2 a (List.mem_range'_1.mp ha).1 q)
  ·exact q
  ·have hs : (pre ++ a :: post).Pairwise (· < ·) := z.1 ▸ List.pairwise_lt_range'
   rw [z.1] at km
   refine (List.mem_append.mp km).elim (fun m => absurd ((at_ k).mpr ⟨hk, h1⟩) (z.2.2.2 k m)) fun m => (lmc m).elim Eq.symm fun m => ?_
   exact absurd q (Nat.lt_asymm ((List.pairwise_cons.mp (List.pairwise_append.mp hs).2.1).1 k m))
 subst ea
 have z2 := z.2.1
 generalize (forIn (List.range' b (t.length + 1 - b)) ((#[] : Array Nat), b) (StrLaws.occBody (⟨t.toArray⟩ : PySem.Str) ⟨p.toArray⟩ t.length 1)).run.fst = arr at z2
 cases arr with | mk l =>
 cases l with
 | nil => exact nos z2
 | cons c l => cases z2; rfl
theorem find_at {c b : Nat} {a r : List Nat} (h : t.drop b = a ++ c :: r) (hc : c ∉ a) : findFrom t [c] b = ((b + a.length : Nat) : Int) := by
 have hd := at_app h
 have hl := (at0 hd).2.2
 refine find_of (nla _ _) hl (by rw [hd]; rfl) fun i h1 h2 e => hc ?_
 have e2 : t.drop i = (a ++ c :: r).drop (i - b) := by rw [← h, List.drop_drop, Nat.add_sub_cancel' h1]
 have hlt : i - b < a.length := Nat.sub_lt_left_of_lt_add h1 h2
 rw [e2, List.drop_append_of_le_length (nol hlt), List.drop_eq_getElem_cons hlt] at e
 cases e; exact List.getElem_mem hlt
end
noncomputable def whPos : Stmt → Pos
 | .While _ _ _ p => p
 | _ => default
section
variable {n : Nat} {sc : Scope} {st : Stmt} {E E1 : EL} {s s1 s2 s3 : MSt}
theorem x_wh0 {c : Cfg} (t : Expr) (b : List Stmt) (p : Pos) (le : LEnv) : ex c sc (.While t b [] p) le = wloop (fun le => tst c t sc le) (fun le => exs c sc b le) c.K le := rfl
theorem KK_eq : KK = 999998 + 2 := rfl
theorem x_wh (hx : st = .While (lpP st).1 (lpP st).2 [] (whPos st)) (le : LEnv) : ex (cN KK n) sc st le = wloop (fun le => tst (cN KK n) (lpP st).1 sc le) (fun le => exs (cN KK n) sc (lpP st).2 le) KK le := by
 generalize lpP st = p at hx
 generalize whPos st = q at hx
 subst hx; exact x_wh0 ..
theorem wh_0 (hx : st = .While (lpP st).1 (lpP st).2 [] (whPos st)) (h : tst (cN KK n) (lpP st).1 sc (lk E) s = .ok false s1) : ex (cN KK n) sc st (lk E) s = .ok (.next, lk E) s1 := by
 rw [x_wh hx, KK_eq]; exact bind_ok (noExc_ok h)
theorem wh_1 (hx : st = .While (lpP st).1 (lpP st).2 [] (whPos st)) (h : tst (cN KK n) (lpP st).1 sc (lk E) s = .ok true s1) (hb : exs (cN KK n) sc (lpP st).2 (lk E) s1 = .ok (.next, lk E1) s2) (h2 : tst (cN KK n) (lpP st).1 sc (lk E1) s2 = .ok false s3) : ex (cN KK n) sc st (lk E) s = .ok (.next, lk E1) s3 := by
 rw [x_wh hx, KK_eq] at *
 refine (bind_ok (noExc_ok h)).trans ((bind_ok (noExc_ok hb)).trans ?_)
 exact bind_ok (noExc_ok h2)
end
section
variable {x : Nat} {Q : MObj → Prop} {s0 s u : MSt} {n m q p : Nat} {t : List Nat} {ws : List Wd}
theorem bracket_run {y r : List Nat} (w : Scn x Q s0 m q t p ws u) (hw : ws.length < cap) (ht : t.length ≤ cap) (hd : t.drop p = 91 :: (y ++ 93 :: r)) (hy : 93 ∉ y) : ScR (cl (n + 3) 569 [.ref m, dS [91]] u) x Q s0 m q t (p + 1 + y.length + 1) (ws ++ [⟨cp "name", [], .str y, p⟩]) := by
 have hd1 := (at0 hd).2.1
 have hf : findFrom t [93] p = ((p + 1 + y.length : Nat) : Int) := (find_at (a := 91 :: y) hd (fun h => (lmc h).elim (by decide) hy)).trans (by rw [llc, Nat.add_right_comm]; rfl)
 have ec := cut_app hd1
 have hc : ¬ ((p + 1 + y.length : Nat) : Int) < 0 := Int.not_lt.mpr (Int.natCast_nonneg _)
 refine (gather_run (n := n) (k := cp "name") (tx := []) (v := .str y) (e := p + 1 + y.length + 1) w hw).elim fun u1 e1 w1 => ?_
 exact w.fx w1 (.tr (Tr.v (eqs_t (x := [91]) (y := [91]) rfl) <| Tr.v (fld_of (a := (so "text")) (v := (.d (.str (t)))) (w.g 0 rfl) (by kernel_rfl)) <| Tr.v (fld_of (a := (so "place")) (v := (.d (.int (((p) : Nat) : Int)))) (w.g 0 rfl) (by kernel_rfl)) <| Tr.v (sm_find hf) <| Tr.v (lt_f hc) <| Tr.v (mth_of (a := (so "gather")) (f := 527) (w.g 0 rfl) (by kernel_rfl)) <| Tr.v (fld_of (a := (so "text")) (v := (.d (.str (t)))) (w.g 0 rfl) (by kernel_rfl)) <| Tr.v (fld_of (a := (so "place")) (v := (.d (.int (((p) : Nat) : Int)))) (w.g 0 rfl) (by kernel_rfl)) <| Tr.v (gs_se (lo := (some (.int (((p + 1) : Nat) : Int)))) (hi := (some (.int (((p + 1 + y.length) : Nat) : Int)))) rfl rfl ec ht) <| Tr.v (e1) <| Tr.ret _) (by kernel_rfl))
theorem repl_not {q : Nat} {l : List Nat} (h : q ∉ l) : repl1 q [q, q] l = l := by
 induction l with
 | nil => rfl
 | cons c t ih =>
  have : repl1 q [q, q] (c :: t) = (if c = q then [q, q] else [c]) ++ repl1 q [q, q] t := rfl
  rw [this, if_neg fun (e : c = q) => h (e ▸ .head _), ih fun e => h (.tail _ e)]; rfl
theorem repl_mid {q : Nat} {y z : List Nat} (h : q ∉ y) (h2 : q ∉ z) : repl1 q [q, q] (y ++ q :: z) = y ++ q :: q :: z := by
 have e1 : repl1 q [q, q] (y ++ q :: z) = repl1 q [q, q] y ++ repl1 q [q, q] (q :: z) := List.flatMap_append ..
 have e2 : repl1 q [q, q] (q :: z) = (if q = q then [q, q] else [q]) ++ repl1 q [q, q] z := rfl
 rw [e1, e2, if_pos rfl, repl_not h, repl_not h2]; rfl
theorem sep_take {r : List Nat} {q : Nat} (h : sepB r = true) (hq : sepC q = false) : r.take 1 ≠ [q] := fun e => by
 cases r with
 | nil => cases e
 | cons c r => cases e; rw [show sepC q = true from h] at hq; cases hq
theorem closing_0 {y r : List Nat} {b c : Nat} (w : Scn x Q s0 m q t p ws u) (ht : t.length ≤ cap) (hd : t.drop b = y ++ c :: r) (hy : c ∉ y) (hr : r.take 1 ≠ [c]) : Qt (cl (n + 1) 562 [.ref m, dS [c], .d (.int b)] u) (.d (.tup [.str y, .int ((b + y.length + 1 : Nat) : Int)])) u := by
 have hf := find_at hd hy
 have ec1 := cut_app hd
 have hd1 := (at0 (at_app hd)).2.1
 have ec2 : cut t (some (b + y.length + 1)) (some (b + y.length + 1 + 1)) = r.take 1 := by rw [cutD, hd1]
 have hc : ¬ ((b + y.length : Nat) : Int) < 0 := Int.not_lt.mpr (Int.natCast_nonneg _)
 have hg : (0 : Int) ≤ ((b + y.length : Nat) : Int) := Int.natCast_nonneg _
 have ly : y.length ≤ cap := nlt (nlt (Nat.le_add_left _ b) (nol (at0 (at_app hd)).2.2)) ht
 have w1 := w.nw (.list (SL []))
 have wh : ex (cN KK n) (fS 562) (stAt 562 2) (lk [(so "end", .d (.int ((b + y.length : Nat) : Int))), (so "parts", .ref u.next), (so "self", .ref m), (so "quote", dS [c]), (so "begin", .d (.int b))]) (nw u (.list (SL []))) = .ok (.next, lk [(so "end", .d (.int ((b + y.length : Nat) : Int))), (so "parts", .ref u.next), (so "self", .ref m), (so "quote", dS [c]), (so "begin", .d (.int b))]) (nw u (.list (SL []))) :=
  wh_0 (by kernel_rfl) (ts_run (Tr.v (ge_t hg) <| Tr.v (fld_of (a := (so "text")) (v := (.d (.str (t)))) (w1.g 1 rfl) (by kernel_rfl)) <| Tr.v (gs_se (lo := (some (.int (((b + y.length + 1) : Nat) : Int)))) (hi := (some (.int (((b + y.length + 2) : Nat) : Int)))) rfl rfl ec2 ht) <| Tr.v (eqs_f hr) <| Tr.ret _) (by kernel_rfl))
 have w2 := w1.put 0 rfl (.list (SL [y]))
 have hj : joinL [] [y] = y := rfl
 have hs : ([y].map (·.length)).sum + [y].length * ([] : List Nat).length ≤ cap := ly
 have e : Ends 562 n [.ref m, dS [c], .d (.int b)] u (.d (.tup [.str y, .int ((b + y.length + 1 : Nat) : Int)])) (pt (nw u (.list (SL []))) u.next (.list (SL [y]))) := .tr (Tr.v (mkl (l := (SL [])) (lbe rfl)) <| Tr.v (fld_of (a := (so "text")) (v := (.d (.str (t)))) (w1.g 1 rfl) (by kernel_rfl)) <| Tr.v (sm_find hf) <| Tr.x (wh) <| Tr.v (lt_f hc) <| Tr.v (app_m (w1.g 0 rfl)) <| Tr.v (fld_of (a := (so "text")) (v := (.d (.str (t)))) (w1.g 1 rfl) (by kernel_rfl)) <| Tr.v (gs_se (lo := (some (.int (((b) : Nat) : Int)))) (hi := (some (.int (((b + y.length) : Nat) : Int)))) rfl rfl ec1 ht) <| Tr.v (app_r (v := (.d (.str (y)))) (w1.g 0 rfl) (lbe rfl)) <| Tr.v (sm_join (lof (w2.g 0 rfl)) hs hj hs) <| Tr.ret _) (by kernel_rfl)
 exact ⟨_, e.toD, ⟨Nat.le_succ _, fun k h => (above_lt h).trans ((uN (nnl h)).trans (uN (nnl h)))⟩⟩
end
section
variable {x : Nat} {Q : MObj → Prop} {s0 s u : MSt} {n m q p : Nat} {t : List Nat} {ws : List Wd}
theorem closing_1 {y z r : List Nat} {b c : Nat} (w : Scn x Q s0 m q t p ws u) (ht : t.length ≤ cap) (hd : t.drop b = y ++ c :: c :: (z ++ c :: r)) (hy : c ∉ y) (hz : c ∉ z) (hr : r.take 1 ≠ [c]) : Qt (cl (n + 1) 562 [.ref m, dS [c], .d (.int b)] u) (.d (.tup [.str (y ++ c :: z), .int ((b + y.length + 2 + z.length + 1 : Nat) : Int)])) u := by
 have hf := find_at hd hy
 have hd1 := (at0 (at_app hd)).2.1
 have hd2 : t.drop (b + y.length + 2) = z ++ c :: r := (at0 hd1).2.1
 have hf2 := find_at hd2 hz
 have hd3 := (at0 (at_app hd2)).2.1
 have ec1 : cut t (some (b + y.length + 1)) (some (b + y.length + 1 + 1)) = [c] := by rw [cutD, hd1]; rfl
 have ec2 : cut t (some b) (some (b + y.length + 1)) = y ++ [c] := cut_app (a := y ++ [c]) (by rw [hd, lap]; rfl) |> fun e => by rwa [lla] at e
 have ec3 := cut_app hd2
 have ec4 : cut t (some (b + y.length + 2 + z.length + 1)) (some (b + y.length + 2 + z.length + 1 + 1)) = r.take 1 := by rw [cutD, hd3]
 have hc : ¬ ((b + y.length + 2 + z.length : Nat) : Int) < 0 := Int.not_lt.mpr (Int.natCast_nonneg _)
 have hg : (0 : Int) ≤ ((b + y.length : Nat) : Int) := Int.natCast_nonneg _
 have hg2 : (0 : Int) ≤ ((b + y.length + 2 + z.length : Nat) : Int) := Int.natCast_nonneg _
 have w1 := w.nw (.list (SL []))
 have w2 := w1.put 0 rfl (.list (SL [y ++ [c]]))
 have wh : ex (cN KK n) (fS 562) (stAt 562 2) (lk [(so "end", .d (.int ((b + y.length : Nat) : Int))), (so "parts", .ref u.next), (so "self", .ref m), (so "quote", dS [c]), (so "begin", .d (.int b))]) (nw u (.list (SL []))) = .ok (.next, lk ([(so "end", .d (.int ((b + y.length + 2 + z.length : Nat) : Int))), (so "begin", .d (.int ((b + y.length + 2 : Nat) : Int))), (so "end", .d (.int ((b + y.length : Nat) : Int))), (so "parts", .ref u.next), (so "self", .ref m), (so "quote", dS [c]), (so "begin", .d (.int b))])) (pt (nw u (.list (SL []))) u.next (.list (SL [y ++ [c]]))) :=
  wh_1 (by kernel_rfl) (ts_run (Tr.v (ge_t hg2) <| Tr.v (fld_of (a := (so "text")) (v := (.d (.str (t)))) (w1.g 1 rfl) (by kernel_rfl)) <| Tr.v (gs_se (lo := (some (.int (((b + y.length + 1) : Nat) : Int)))) (hi := (some (.int (((b + y.length + 2) : Nat) : Int)))) rfl rfl ec1 ht) <| Tr.v (eqs_t (x := ([c])) (y := ([c])) rfl) <| Tr.ret _) (by kernel_rfl))
   (xs_on (Tr.v (app_m (w1.g 0 rfl)) <| Tr.v (fld_of (a := (so "text")) (v := (.d (.str (t)))) (w1.g 1 rfl) (by kernel_rfl)) <| Tr.v (gs_se (lo := (some (.int (((b) : Nat) : Int)))) (hi := (some (.int (((b + y.length + 1) : Nat) : Int)))) rfl rfl ec2 ht) <| Tr.v (app_r (v := (.d (.str (y ++ [c])))) (w1.g 0 rfl) (lbe rfl)) <| Tr.v (fld_of (a := (so "text")) (v := (.d (.str (t)))) (w2.g 1 rfl) (by kernel_rfl)) <| Tr.v (sm_find hf2) <| Tr.ret _) (by kernel_rfl))
   (ts_run (Tr.v (ge_t hg2) <| Tr.v (fld_of (a := (so "text")) (v := (.d (.str (t)))) (w2.g 1 rfl) (by kernel_rfl)) <| Tr.v (gs_se (lo := (some (.int (((b + y.length + 2 + z.length + 1) : Nat) : Int)))) (hi := (some (.int (((b + y.length + 2 + z.length + 2) : Nat) : Int)))) rfl rfl ec4 ht) <| Tr.v (eqs_f hr) <| Tr.ret _) (by kernel_rfl))
 have w3 := w2.put 0 rfl (.list (SL [y ++ [c], z]))
 have hj : joinL [] [y ++ [c], z] = y ++ c :: z := by show y ++ [c] ++ [] ++ z = _; rw [lan, lap]; rfl
 have hl : (y ++ c :: z).length ≤ cap := by
  have h1 := nol (at0 (at_app hd2)).2.2
  rw [lla, llc]
  refine nlt (nlt (nlt ?_ (Nat.le_add_left _ b)) (noe (?_ : b + (y.length + 2 + z.length) = b + y.length + 2 + z.length))) (nlt h1 ht)
  ·rw [Nat.add_assoc]; exact Nat.add_le_add_left (by rw [Nat.add_comm]; exact Nat.add_le_add_right (by decide) _) _
  ·rw [Nat.add_assoc, Nat.add_assoc, Nat.add_assoc]
 have hs : ([y ++ [c], z].map (·.length)).sum + [y ++ [c], z].length * ([] : List Nat).length ≤ cap := by
  refine nlt (noe ?_) hl
  show (y ++ [c]).length + (z.length + 0) + 0 = _
  rw [lla, lla, llc]
  show y.length + 1 + z.length = y.length + (z.length + 1)
  rw [Nat.add_assoc, Nat.add_comm 1]
 have e : Ends 562 n [.ref m, dS [c], .d (.int b)] u (.d (.tup [.str (y ++ c :: z), .int ((b + y.length + 2 + z.length + 1 : Nat) : Int)])) (pt (pt (nw u (.list (SL []))) u.next (.list (SL [y ++ [c]]))) u.next (.list (SL [y ++ [c], z]))) := .tr (Tr.v (mkl (l := (SL [])) (lbe rfl)) <| Tr.v (fld_of (a := (so "text")) (v := (.d (.str (t)))) (w1.g 1 rfl) (by kernel_rfl)) <| Tr.v (sm_find hf) <| Tr.x (wh) <| Tr.v (lt_f hc) <| Tr.v (app_m (w2.g 0 rfl)) <| Tr.v (fld_of (a := (so "text")) (v := (.d (.str (t)))) (w2.g 1 rfl) (by kernel_rfl)) <| Tr.v (gs_se (lo := (some (.int (((b + y.length + 2) : Nat) : Int)))) (hi := (some (.int (((b + y.length + 2 + z.length) : Nat) : Int)))) rfl rfl ec3 ht) <| Tr.v (app_r (v := (.d (.str (z)))) (w2.g 0 rfl) (lbe rfl)) <| Tr.v (sm_join (lof (w3.g 0 rfl)) hs hj hl) <| Tr.ret _) (by kernel_rfl)
 exact ⟨_, e.toD, ⟨Nat.le_succ _, fun k h => (above_lt h).trans ((uN (nnl h)).trans ((uN (nnl h)).trans (uN (nnl h))))⟩⟩
theorem quoted_run {y r : List Nat} {c : Nat} (w : Scn x Q s0 m q t p ws u) (hw : ws.length < cap) (ht : t.length ≤ cap) (hd : t.drop p = c :: (repl1 c [c, c] y ++ c :: r)) (hy : Qok c y) (hr : sepB r = true) : ∃ p', ScR (cl (n + 3) 569 [.ref m, dS [c]] u) x Q s0 m q t p' (ws ++ [⟨cp "name", [], .str y, p⟩]) ∧ t.drop p' = r := by
 have hr : r.take 1 ≠ [c] := sep_take hr (hy.1.elim (fun e => by subst e; rfl) fun e => by subst e; rfl)
 have h91 : ¬ [c] = [91] := hy.1.elim (fun e => by subst e; decide) fun e => by subst e; decide
 have h39 : ¬ [c] = [39] := hy.1.elim (fun e => by subst e; decide) fun e => by subst e; decide
 have hd1 := (at0 hd).2.1
 have fin : ∀ p' : Nat, Qt (cl (n + 2) 562 [.ref m, dS [c], .d (.int ((p + 1 : Nat) : Int))] u) (.d (.tup [.str y, .int ((p' : Nat) : Int)])) u → ScR (cl (n + 3) 569 [.ref m, dS [c]] u) x Q s0 m q t p' (ws ++ [⟨cp "name", [], .str y, p⟩]) := by
  intro p' h
  refine h.elim fun u1 e1 h1 => ?_
  have w1 := w.nt h1
  refine (gather_run (n := n) (k := cp "name") (tx := []) (v := .str y) (e := p') w1 hw).elim fun u2 e2 w2 => ?_
  exact w.fx w2 (.tr (Tr.v (eqs_f h91) <| Tr.v (mth_of (a := (so "closing")) (f := 562) (w.g 0 rfl) (by kernel_rfl)) <| Tr.v (fld_of (a := (so "place")) (v := (.d (.int (((p) : Nat) : Int)))) (w.g 0 rfl) (by kernel_rfl)) <| Tr.v (e1) <| Tr.v (mth_of (a := (so "gather")) (f := 527) (w1.g 0 rfl) (by kernel_rfl)) <| Tr.v (eqs_f h39) <| Tr.v (e2) <| Tr.ret _) (by kernel_rfl))
 refine hy.2.elim (fun h => ?_) fun h => h.elim fun a h => h.elim fun b h => ?_
 ·rw [repl_not h] at hd1
  exact ⟨_, fin _ (closing_0 (n := n + 1) w ht hd1 h hr), (at0 (at_app hd1)).2.1⟩
 ·rw [h.1, repl_mid h.2.1 h.2.2, lap] at hd1
  have hd2 : t.drop (p + 1 + a.length + 2) = b ++ c :: r := (at0 (at0 (at_app hd1)).2.1).2.1
  exact ⟨_, fin _ (h.1 ▸ closing_1 (n := n + 1) w ht hd1 h.2.1 h.2.2 hr), (at0 (at_app hd2)).2.1⟩
end
section
variable {σ : Type} {n : Nat} {sc : Scope} {st : Stmt} {E : EL} {u : MSt} {pre : σ → EL} {I J : σ → MSt → Prop} {μ : σ → Nat} {r : O Bool} {rb : MSt → O (Fl × LEnv)}
inductive Wst (r : O Bool) (rb : MSt → O (Fl × LEnv)) (pre : σ → EL) (I J : σ → MSt → Prop) (μ : σ → Nat) (a : σ) : Prop
 | stop (u : MSt) (e : r = .ok false u) (j : J a u)
 | go (u : MSt) (e : r = .ok true u) (b : Blk (rb u) pre fun a' u' => I a' u' ∧ μ a' < μ a)
theorem wl_run {c : Cfg} {T : Expr} {B : List Stmt} (step : ∀ a E u, I a u → Wst (tst c T sc (lk (pre a ++ E)) u) (exs c sc B (lk (pre a ++ E))) pre I J μ a) : ∀ (k : Nat) (a : σ) (E : EL) (u : MSt), μ a < k → Pre (pre a) E → I a u → Lp (wloop (fun le => tst c T sc le) (fun le => exs c sc B le) k (lk E) u) pre J
 | 0, _, _, _, h, _, _ => absurd h (Nat.not_lt_zero _)
 | k + 1, a, E, u, h, hp, i => by
  rw [← lk_pre _ hp]
  cases step a E u i with
  | stop u' e j => exact ⟨a, E, u', bind_ok (noExc_ok e), j⟩
  | go u1 e b =>
   cases b with | mk a' E' u' e' hp' j =>
   have z := wl_run step k a' E' u' (lll j.2 (Nat.le_of_lt_succ h)) hp' j.1
   have q : wloop (fun le => tst c T sc le) (fun le => exs c sc B le) (k + 1) (lk (pre a ++ E)) u = wloop (fun le => tst c T sc le) (fun le => exs c sc B le) k (lk E') u' := (bind_ok (noExc_ok e)).trans (bind_ok (noExc_ok e'))
   rw [q]; exact z
theorem wx_run (hx : st = .While (lpP st).1 (lpP st).2 [] (whPos st)) (step : ∀ a E u, I a u → Wst (tst (cN KK n) (lpP st).1 sc (lk (pre a ++ E)) u) (exs (cN KK n) sc (lpP st).2 (lk (pre a ++ E))) pre I J μ a) {a : σ} (h : μ a < KK) (hp : Pre (pre a) E) (i : I a u) : Lp (ex (cN KK n) sc st (lk E) u) pre J := by
 rw [x_wh hx]; exact wl_run step KK a E u h hp i
end
theorem isSub_one (y : Nat) : ∀ l : List Nat, isSub [y] l = hasN l y
 | [] => rfl
 | c :: l => by
  have e : (y == c) = Nat.beq c y := by rw [Bool.eq_iff_iff, beq_iff_eq, Nat.beq_eq]; exact eq_comm
  show ((y == c && true) || isSub [y] l) = (Nat.beq c y || hasN l y)
  rw [isSub_one y l, Bool.and_true, e]
section
variable {x : Nat} {Q : MObj → Prop} {s0 s u : MSt} {n m q p : Nat} {t : List Nat} {ws : List Wd}
theorem ns_asc : ∀ c ∈ nsL, (decide (c < 128)) = true := by decide +kernel
theorem hasN_in {l : List Nat} {c : Nat} (h : hasN l c = true) : c ∈ l := (List.any_eq_true.mp h).elim fun y z => (Nat.eq_of_beq_eq_true z.2) ▸ z.1
theorem let_ns : ∀ c ∈ letL, c ∈ nsL := by decide +kernel
theorem sep_ns : ∀ c ∈ [32, 10, 40, 41, 44], (isSub [c] nsL || decide (127 < c)) = false := by decide +kernel
theorem len_pre {a r : List Nat} (h : t.drop p = a ++ r) : a.length ≤ t.length := by
 have z := congrArg List.length h
 rw [lla, List.length_drop] at z
 exact nlt (nla _ _) (z ▸ Nat.sub_le ..)
structure Sb (x : Nat) (Q : MObj → Prop) (s0 : MSt) (m q : Nat) (t : List Nat) (p e0 : Nat) (ws : List Wd) (r : List Nat) (a : Nat × List Nat) (u : MSt) : Prop where
 w : Scn x Q s0 m q t p ws u
 d : t.drop a.1 = a.2 ++ r
 h : a.2.all (hasN nsL) = true
 e : a.1 + a.2.length = e0
theorem bare_run {y : Nat} {w' r : List Nat} (w : Scn x Q s0 m q t p ws u) (hw : ws.length < cap) (ht : t.length ≤ 900000) (hd : t.drop p = y :: w' ++ r) (hb : bareOk (y :: w') = true) (hr : sepB r = true) : ScR (cl (n + 3) 555 [.ref m, dS [y]] u) x Q s0 m q t (p + 1 + w'.length) (ws ++ [⟨cp "name", upperA (y :: w'), .str (y :: w'), p⟩]) := by
 have b2 := (Bool.and_eq_true _ _).mp hb
 have hd1 : t.drop (p + 1) = w' ++ r := (at0 hd).2.1
 have ec1 : cut t (some (p + 1)) (some (p + 1 + 1)) = (w' ++ r).take 1 := by rw [cutD, hd1]
 have n39 : ¬ (w' ++ r).take 1 = [39] := by
  cases w' with
  | nil => exact sep_take hr rfl
  | cons c w' => intro e; cases e; exact absurd ((Bool.and_eq_true _ _).mp b2.2).1 (by decide)
 have ec2 : cut t (some p) (some (p + 1 + w'.length)) = y :: w' := by
  have z := cut_app (a := y :: w') hd
  rwa [llc, ← Nat.add_assoc, Nat.add_right_comm] at z
 have ha : ascii (y :: w') = true := List.all_eq_true.mpr fun c hc => ns_asc c ((lmc hc).elim (fun e => by rw [e]; exact let_ns y (hasN_in b2.1)) fun h => hasN_in (List.all_eq_true.mp b2.2 c h))
 have hl : (y :: w').length ≤ 900000 := nlt (len_pre hd) ht
 have hl' := to_cap hl
 have ht' := to_cap ht
 refine (wx_run (n := n + 2) (sc := fS 555) (st := stAt 555 3) (u := u) (E := [(so "end", .d (.int ((p + 1 : Nat) : Int))), (so "text", dS t), (so "self", .ref m), (so "sign", dS [y])]) (pre := fun a => [(so "self", .ref m), (so "text", dS t), (so "end", .d (.int (a.1 : Nat)))]) (I := Sb x Q s0 m q t p (p + 1 + w'.length) ws r) (J := fun a u => Sb x Q s0 m q t p (p + 1 + w'.length) ws r a u ∧ a.2 = []) (μ := fun a => a.2.length) (a := (p + 1, w')) (by kernel_rfl) ?_ ?_ rfl ⟨w, hd1, b2.2, rfl⟩).elim fun a E u1 e1 j => ?_
 ·intro a E u I
  have w1 := I.w
  have I2 := I
  obtain ⟨e, l⟩ := a
  cases l with
  | nil =>
   have hd3 : t.drop e = r := I.d
   cases r with
   | nil =>
    have hlt : ¬ (e : Int) < (t.length : Int) := Int.not_lt.mpr (Int.ofNat_le.mpr (List.drop_eq_nil_iff.mp hd3))
    exact .stop u (ts_run (Tr.v (len_s (l := (t)) ht') <| Tr.v (lt_f hlt) <| Tr.ret _) (by kernel_rfl)) ⟨I2, rfl⟩
   | cons c r' =>
    have hlt : (e : Int) < (t.length : Int) := Int.ofNat_lt.mpr (at0 hd3).2.2
    have hg := (at0 hd3).1
    have hs := sep_ns c (hasN_in hr)
    have hs2 := (Bool.or_eq_false_iff.mp hs)
    have hs1 := hs2.1
    have ho : ¬ (127 : Int) < (c : Int) := fun h => absurd (Int.ofNat_lt.mp h) (of_decide_eq_false hs2.2)
    exact .stop u (ts_run (Tr.v (len_s (l := (t)) ht') <| Tr.v (lt_t hlt) <| Tr.v (gi_s hg ht') <| Tr.v (in_s hs1) <| Tr.v (gi_s hg ht') <| Tr.v (ord_s (c)) <| Tr.v (gt_f ho) <| Tr.ret _) (by kernel_rfl)) ⟨I2, rfl⟩
  | cons c l =>
   have hd3 : t.drop e = c :: (l ++ r) := I.d
   have hlt : (e : Int) < (t.length : Int) := Int.ofNat_lt.mpr (at0 hd3).2.2
   have hg := (at0 hd3).1
   have h2 := (Bool.and_eq_true _ _).mp I.h
   have hs1 : isSub [c] nsL = true := (isSub_one c nsL).trans h2.1
   exact .go u (ts_run (Tr.v (len_s (l := (t)) ht') <| Tr.v (lt_t hlt) <| Tr.v (gi_s hg ht') <| Tr.v (in_s hs1) <| Tr.ret _) (by kernel_rfl))
    ⟨(e + 1, l), [(so "end", .d (.int ((e + 1 : Nat) : Int))), (so "self", .ref m), (so "text", dS t), (so "end", .d (.int (e : Nat)))] ++ E, u, xs_on (Tr.ret _) (by kernel_rfl), rfl, ⟨w1, (at0 hd3).2.1, h2.2, by rw [← I.e, llc, Nat.add_assoc, Nat.add_comm 1]⟩, nls _⟩
 ·exact lll (nll (Nat.le_succ_of_le (nlr _)) (Nat.lt_succ_of_le hl)) (by decide)
 ·have w1 := j.1.w
  have ee : a.1 = p + 1 + w'.length := by have z := j.1.e; rw [j.2] at z; exact z
  rw [ee] at e1
  refine (folded_run (n := n + 1) ha hl' (w1.sub (List.nil_sublist _))).elim fun u2 e2 h2 => ?_
  have w2 := w1.nt h2
  refine (gather_run (n := n) (k := cp "name") (tx := upperA (y :: w')) (v := .str (y :: w')) (e := p + 1 + w'.length) w2 hw).elim fun u3 e3 w3 => ?_
  cases hx : isSub [y] (cp "xX") with
  | true => exact w.fx w3 (.tr (Tr.v (fld_of (a := (so "text")) (v := (.d (.str (t)))) (w.g 0 rfl) (by kernel_rfl)) <| Tr.v (fld_of (a := (so "place")) (v := (.d (.int (((p) : Nat) : Int)))) (w.g 0 rfl) (by kernel_rfl)) <| Tr.v (in_s hx) <| Tr.v (gs_se (lo := (some (.int (((p + 1) : Nat) : Int)))) (hi := (some (.int (((p + 1 + 1) : Nat) : Int)))) rfl rfl ec1 ht') <| Tr.v (eqs_f n39) <| Tr.x (e1) <| Tr.v (fld_of (a := (so "place")) (v := (.d (.int (((p) : Nat) : Int)))) (w1.g 0 rfl) (by kernel_rfl)) <| Tr.v (gs_se (lo := (some (.int (((p) : Nat) : Int)))) (hi := (some (.int (((p + 1 + w'.length) : Nat) : Int)))) rfl rfl ec2 ht') <| Tr.v (mth_of (a := (so "gather")) (f := 527) (w1.g 0 rfl) (by kernel_rfl)) <| Tr.v (e2) <| Tr.v (e3) <| Tr.ret _) (by kernel_rfl))
  | false => exact w.fx w3 (.tr (Tr.v (fld_of (a := (so "text")) (v := (.d (.str (t)))) (w.g 0 rfl) (by kernel_rfl)) <| Tr.v (fld_of (a := (so "place")) (v := (.d (.int (((p) : Nat) : Int)))) (w.g 0 rfl) (by kernel_rfl)) <| Tr.v (in_s hx) <| Tr.x (e1) <| Tr.v (fld_of (a := (so "place")) (v := (.d (.int (((p) : Nat) : Int)))) (w1.g 0 rfl) (by kernel_rfl)) <| Tr.v (gs_se (lo := (some (.int (((p) : Nat) : Int)))) (hi := (some (.int (((p + 1 + w'.length) : Nat) : Int)))) rfl rfl ec2 ht') <| Tr.v (mth_of (a := (so "gather")) (f := 527) (w1.g 0 rfl) (by kernel_rfl)) <| Tr.v (e2) <| Tr.v (e3) <| Tr.ret _) (by kernel_rfl))
end
section
variable {x : Nat} {Q : MObj → Prop} {s0 s u : MSt} {n m q p : Nat} {t : List Nat} {ws : List Wd}
noncomputable def figL : List Nat := cp "0123456789"
theorem sep_fig : ∀ c ∈ [32, 10, 40, 41, 44], isSub [c] figL = false := by decide +kernel
structure Se (x : Nat) (Q : MObj → Prop) (s0 : MSt) (m q : Nat) (t : List Nat) (p e0 : Nat) (ws : List Wd) (r : List Nat) (u0 : MSt) (a : Nat × List Nat) (u : MSt) : Prop where
 d : t.drop a.1 = a.2 ++ r
 h : ∀ c ∈ a.2, isSub [c] figL = true
 e : a.1 + a.2.length = e0
 u : u = u0
theorem end_run {w' r : List Nat} {b : Nat} (w : Scn x Q s0 m q t p ws u) (ht : t.length ≤ 900000) (hd : t.drop b = w' ++ r) (hw : ∀ c ∈ w', isSub [c] figL = true) (hr : sepB r = true) : Qt (cl (n + 1) 548 [.ref m, dS figL, .d (.int b)] u) (.d (.int ((b + w'.length : Nat) : Int))) u := by
 have ht' := to_cap ht
 refine (wx_run (n := n) (sc := fS 548) (st := stAt 548 1) (u := u) (E := [(so "text", dS t), (so "self", .ref m), (so "signs", dS figL), (so "end", .d (.int b))]) (pre := fun a => [(so "signs", dS figL), (so "text", dS t), (so "end", .d (.int (a.1 : Nat)))]) (I := Se x Q s0 m q t p (b + w'.length) ws r u) (J := fun a v => Se x Q s0 m q t p (b + w'.length) ws r u a v ∧ a.2 = []) (μ := fun a => a.2.length) (a := (b, w')) (by kernel_rfl) ?_ ?_ rfl ⟨hd, hw, rfl, rfl⟩).elim fun a E u1 e1 j => ?_
 ·intro a E v I
  have I2 := I
  cases I.u
  obtain ⟨e, l⟩ := a
  cases l with
  | nil =>
   have hd3 : t.drop e = r := I.d
   cases r with
   | nil =>
    have hlt : ¬ (e : Int) < (t.length : Int) := Int.not_lt.mpr (Int.ofNat_le.mpr (List.drop_eq_nil_iff.mp hd3))
    exact .stop u (ts_run (Tr.v (len_s (l := (t)) ht') <| Tr.v (lt_f hlt) <| Tr.ret _) (by kernel_rfl)) ⟨I2, rfl⟩
   | cons c r' =>
    have hlt : (e : Int) < (t.length : Int) := Int.ofNat_lt.mpr (at0 hd3).2.2
    have hg := (at0 hd3).1
    have hs := sep_fig c (hasN_in hr)
    exact .stop u (ts_run (Tr.v (len_s (l := (t)) ht') <| Tr.v (lt_t hlt) <| Tr.v (gi_s hg ht') <| Tr.v (in_s hs) <| Tr.ret _) (by kernel_rfl)) ⟨I2, rfl⟩
  | cons c l =>
   have hd3 : t.drop e = c :: (l ++ r) := I.d
   have hlt : (e : Int) < (t.length : Int) := Int.ofNat_lt.mpr (at0 hd3).2.2
   have hg := (at0 hd3).1
   have hs := I.h c (.head _)
   exact .go u (ts_run (Tr.v (len_s (l := (t)) ht') <| Tr.v (lt_t hlt) <| Tr.v (gi_s hg ht') <| Tr.v (in_s hs) <| Tr.ret _) (by kernel_rfl))
    ⟨(e + 1, l), [(so "end", .d (.int ((e + 1 : Nat) : Int))), (so "signs", dS figL), (so "text", dS t), (so "end", .d (.int (e : Nat)))] ++ E, u, xs_on (Tr.ret _) (by kernel_rfl), rfl, ⟨(at0 hd3).2.1, fun y hy => I.h y (.tail _ hy), by rw [← I.e, llc, Nat.add_assoc, Nat.add_comm 1], rfl⟩, nls _⟩
 ·exact nll (nlt (len_pre hd) ht) (by decide)
 ·cases j.1.u
  have ee : a.1 = b + w'.length := by have z := j.1.e; rw [j.2] at z; exact z
  rw [ee] at e1
  exact ⟨_, Ends.toD (.tr (Tr.v (fld_of (a := (so "text")) (v := (.d (.str (t)))) (w.g 0 rfl) (by kernel_rfl)) <| Tr.x (e1) <| Tr.ret _) (by kernel_rfl)), .back u⟩
theorem goes_run {c : Nat} (w : Fw x Q s0 [] u) (h : (isSub [c] nsL || decide (127 < c)) = false) : Qt (cl (n + 1) 450 [dS [c]] u) (.d (.bool false)) u := by
 have hs2 := (Bool.or_eq_false_iff.mp h)
 have hs1 := hs2.1
 have ho : ¬ (127 : Int) < (c : Int) := fun h => absurd (Int.ofNat_lt.mp h) (of_decide_eq_false hs2.2)
 exact ⟨_, Ends.toD (.tr (Tr.v (in_s hs1) <| Tr.v (ord_s (c)) <| Tr.v (gt_f ho) <| Tr.ret _) (by kernel_rfl)), .back u⟩
structure NumF (w : List Nat) : Prop where
 d : ∀ c ∈ w, isSub [c] figL = true
 z : lstripZ w = w
 l : w.length ≤ 20
 n : w ≠ []
 i : (!w.isEmpty && w.all (fun c => 48 ≤ c && c ≤ 57) && decide (w.length ≤ 20)) = true
 g : ¬ (9223372036854775808 : Int) < (numOf w : Int)
 h : w[0]? ≠ some 48
theorem num_f {w : List Nat} (h : NumW w) : NumF w := by
 rcases h with rfl | rfl | rfl
 ·exact ⟨by decide +kernel, by kernel_rfl, by decide, by decide, by decide +kernel, by decide, by decide⟩
 ·exact ⟨by decide +kernel, by kernel_rfl, by decide, by decide, by decide +kernel, by decide, by decide⟩
 ·exact ⟨by decide +kernel, by kernel_rfl, by decide, by decide, by decide +kernel, by decide, by decide⟩
theorem value_run {w' r : List Nat} (w : Scn x Q s0 m q t p ws u) (ht : t.length ≤ 900000) (hd : t.drop p = w' ++ r) (f : NumF w') : Qt (cl (n + 1) 590 [.ref m, .d (.int (p : Nat)), .d (.int ((p + w'.length : Nat) : Int)), .d (.int 10)] u) (.d (.int (numOf w'))) u := by
 have ht' := to_cap ht
 have ec := cut_app hd
 have hz := f.z
 have hi := f.i
 have hn := f.n
 have hl := to_cap f.l
 have h0 : ¬ (p : Int) = ((p + w'.length : Nat) : Int) := fun e => absurd (Int.ofNat_inj.mp e) (nnl (Nat.lt_add_of_pos_right (List.length_pos_iff.mpr f.n)))
 have h20 : ¬ (20 : Int) < (w'.length : Int) := fun h => absurd (Int.ofNat_lt.mp h) (Nat.not_lt.mpr f.l)
 exact ⟨_, Ends.toD (.tr (Tr.v (eqi_f h0) <| Tr.v (fld_of (a := (so "text")) (v := (.d (.str (t)))) (w.g 0 rfl) (by kernel_rfl)) <| Tr.v (gs_se (lo := (some (.int (((p) : Nat) : Int)))) (hi := (some (.int (((p + w'.length) : Nat) : Int)))) rfl rfl ec ht') <| Tr.v (sm_lst hz hl) <| Tr.v (len_s (l := (w')) hl) <| Tr.v (gt_f h20) <| Tr.v (nes_t hn) <| Tr.v (ty_int2 hi) <| Tr.ret _) (by kernel_rfl)), .back u⟩
end
section
variable {x : Nat} {Q : MObj → Prop} {s0 s u : MSt} {n m q p : Nat} {t : List Nat} {ws : List Wd}
theorem any_not {w : List Nat} {c : Nat} (h : w[0]? ≠ some c) (a b : Nat) : strEqAny w (SD [[c, a], [c, b]]) = some false := by
 show some (decide (w = [c, a]) || (decide (w = [c, b]) || false)) = some false
 rw [decide_eq_false (fun e => h (by rw [e]; rfl)), decide_eq_false (fun e => h (by rw [e]; rfl))]; rfl
theorem number_run {w' r : List Nat} (w : Scn x Q s0 m q t p ws u) (hw : ws.length < cap) (ht : t.length ≤ 900000) (hd : t.drop p = w' ++ r) (f : NumF w') (hr : sepB r = true) : ScR (cl (n + 3) 583 [.ref m] u) x Q s0 m q t (p + w'.length) (ws ++ [⟨cp "number", [], .int (numOf w'), p⟩]) := by
 have ht' := to_cap ht
 have ec1 : cut t (some p) (some (p + 2)) = (w' ++ r).take 2 := by rw [cutD, hd]
 have h0 : strEqAny ((w' ++ r).take 2) (SD [[48, 120], [48, 88]]) = some false := any_not (by
  have h := f.h
  have n := f.n
  cases w' with
  | nil => exact absurd rfl n
  | cons c l => exact h) 120 88
 have ec2 : cut t (some (p + w'.length)) (some (p + w'.length + 1)) = r.take 1 := by rw [cutD, at_app hd]
 have hg := f.g
 refine (end_run (n := n + 1) w ht hd f.d hr).elim fun u1 e1 h1 => ?_
 have w1 := w.nt h1
 refine (value_run (n := n + 1) w1 ht hd f).elim fun u2 e2 h2 => ?_
 have w2 := w1.nt h2
 cases r with
 | nil =>
  refine (gather_run (n := n) (k := cp "number") (tx := []) (v := .int (numOf w')) (e := p + w'.length) w2 hw).elim fun u3 e3 w3 => ?_
  exact w.fx w3 (.tr (Tr.v (fld_of (a := (so "place")) (v := (.d (.int (((p) : Nat) : Int)))) (w.g 0 rfl) (by kernel_rfl)) <| Tr.v (fld_of (a := (so "text")) (v := (.d (.str (t)))) (w.g 0 rfl) (by kernel_rfl)) <| Tr.v (gs_se (lo := (some (.int (((p) : Nat) : Int)))) (hi := (some (.int (((p + 2) : Nat) : Int)))) rfl rfl ec1 ht') <| Tr.v (in_t h0) <| Tr.v (mth_of (a := (so "end_of")) (f := 548) (w.g 0 rfl) (by kernel_rfl)) <| Tr.v (e1) <| Tr.v (mth_of (a := (so "value_of")) (f := 590) (w1.g 0 rfl) (by kernel_rfl)) <| Tr.v (e2) <| Tr.v (gt_f hg) <| Tr.v (fld_of (a := (so "text")) (v := (.d (.str (t)))) (w2.g 0 rfl) (by kernel_rfl)) <| Tr.v (gs_se (lo := (some (.int (((p + w'.length) : Nat) : Int)))) (hi := (some (.int (((p + w'.length + 1) : Nat) : Int)))) rfl rfl ec2 ht') <| Tr.v (nes_f (x := []) (y := []) rfl) <| Tr.v (mth_of (a := (so "gather")) (f := 527) (w2.g 0 rfl) (by kernel_rfl)) <| Tr.v (e3) <| Tr.ret _) (by kernel_rfl))
 | cons c r =>
  have hs := sep_ns c (hasN_in hr)
  have hdot : ¬ [c] = [46] := fun e => by cases e; exact absurd (show sepC 46 = true from hr) (by decide)
  have hne : ¬ [c] = [] := fun e => nomatch e
  refine (goes_run (n := n + 1) (w2.sub (List.nil_sublist _)) hs).elim fun u4 e4 h4 => ?_
  have w4 := w2.nt h4
  refine (gather_run (n := n) (k := cp "number") (tx := []) (v := .int (numOf w')) (e := p + w'.length) w4 hw).elim fun u3 e3 w3 => ?_
  exact w.fx w3 (.tr (Tr.v (fld_of (a := (so "place")) (v := (.d (.int (((p) : Nat) : Int)))) (w.g 0 rfl) (by kernel_rfl)) <| Tr.v (fld_of (a := (so "text")) (v := (.d (.str (t)))) (w.g 0 rfl) (by kernel_rfl)) <| Tr.v (gs_se (lo := (some (.int (((p) : Nat) : Int)))) (hi := (some (.int (((p + 2) : Nat) : Int)))) rfl rfl ec1 ht') <| Tr.v (in_t h0) <| Tr.v (mth_of (a := (so "end_of")) (f := 548) (w.g 0 rfl) (by kernel_rfl)) <| Tr.v (e1) <| Tr.v (mth_of (a := (so "value_of")) (f := 590) (w1.g 0 rfl) (by kernel_rfl)) <| Tr.v (e2) <| Tr.v (gt_f hg) <| Tr.v (fld_of (a := (so "text")) (v := (.d (.str (t)))) (w2.g 0 rfl) (by kernel_rfl)) <| Tr.v (gs_se (lo := (some (.int (((p + w'.length) : Nat) : Int)))) (hi := (some (.int (((p + w'.length + 1) : Nat) : Int)))) rfl rfl ec2 ht') <| Tr.v (nes_t hne) <| Tr.v (eqs_f hdot) <| Tr.v (e4) <| Tr.v (mth_of (a := (so "gather")) (f := 527) (w4.g 0 rfl) (by kernel_rfl)) <| Tr.v (e3) <| Tr.ret _) (by kernel_rfl))
noncomputable def so2L : List (List Nat) := [cp "<=", cp ">=", cp "<>", cp "!=", cp "==", cp "||", cp "<<", cp ">>"]
noncomputable def so1L : List Nat := cp "(),.;+-*/%=<>&|~"
theorem sg_so : ∀ c ∈ sgL, (so2L.all (fun y => decide (y[0]? ≠ some c)) && isSub [c] so1L && decide (c ≠ 47)) = true := by decide +kernel
theorem any_so {w : List Nat} {c : Nat} (h : w[0]? = some c) : ∀ l : List (List Nat), l.all (fun y => decide (y[0]? ≠ some c)) = true → strEqAny w (SD l) = some false := fun l hl => by
 have e : strEqAny w (SD l) = some (l.any fun y => decide (w = y)) := congrArg (Option.map fun ys => List.any ys fun y => decide (w = y)) (strsD_SD l)
 rw [e, List.any_eq_false.mpr fun y hy q => absurd h (by rw [of_decide_eq_true q]; exact of_decide_eq_true (List.all_eq_true.mp hl y hy))]
theorem sign_run {c : Nat} {r : List Nat} (w : Scn x Q s0 m q t p ws u) (hw : ws.length < cap) (ht : t.length ≤ 900000) (hd : t.drop p = c :: r) (hc : c ∈ sgL) (h45 : c = 45 → r.take 1 ≠ [45]) : ScR (cl (n + 3) 597 [.ref m, dS [c]] u) x Q s0 m q t (p + 1) (ws ++ [⟨cp "sign", [c], .none, p⟩]) := by
 have ht' := to_cap ht
 have z := (Bool.and_eq_true _ _).mp (sg_so c hc)
 have z1 := (Bool.and_eq_true _ _).mp z.1
 have ec : cut t (some p) (some (p + 2)) = c :: r.take 1 := by rw [cutD, hd]; rfl
 have h1 : ¬ c :: r.take 1 = [45, 45] := fun e => h45 (List.cons.inj e).1 (List.cons.inj e).2
 have h2 : ¬ c :: r.take 1 = [47, 42] := fun e => of_decide_eq_true z.2 (List.cons.inj e).1
 have h3 := any_so (w := c :: r.take 1) rfl so2L z1.1
 have h4 := z1.2
 refine (gather_run (n := n) (k := cp "sign") (tx := [c]) (v := .none) (e := p + 1) w hw).elim fun u1 e1 w1 => ?_
 exact w.fx w1 (.tr (Tr.v (fld_of (a := (so "text")) (v := (.d (.str (t)))) (w.g 0 rfl) (by kernel_rfl)) <| Tr.v (fld_of (a := (so "place")) (v := (.d (.int (((p) : Nat) : Int)))) (w.g 0 rfl) (by kernel_rfl)) <| Tr.v (fld_of (a := (so "place")) (v := (.d (.int (((p) : Nat) : Int)))) (w.g 0 rfl) (by kernel_rfl)) <| Tr.v (gs_se (lo := (some (.int (((p) : Nat) : Int)))) (hi := (some (.int (((p + 2) : Nat) : Int)))) rfl rfl ec ht') <| Tr.v (eqs_f h1) <| Tr.v (eqs_f h2) <| Tr.v (in_t h3) <| Tr.v (in_s h4) <| Tr.v (mth_of (a := (so "gather")) (f := 527) (w.g 0 rfl) (by kernel_rfl)) <| Tr.v (fld_of (a := (so "place")) (v := (.d (.int (((p) : Nat) : Int)))) (w.g 0 rfl) (by kernel_rfl)) <| Tr.v (e1) <| Tr.ret _) (by kernel_rfl))
theorem line_run {r : List Nat} (w : Scn x Q s0 m q t p ws u) (ht : t.length ≤ 900000) (hd : t.drop p = 45 :: 45 :: 32 :: 40 :: 10 :: r) : ScR (cl (n + 3) 597 [.ref m, dS [45]] u) x Q s0 m q t (p + 4) ws := by
 have ht' := to_cap ht
 have ec : cut t (some p) (some (p + 2)) = [45, 45] := by rw [cutD, hd]; rfl
 have hf : findFrom t [10] p = ((p + 4 : Nat) : Int) := find_at (a := [45, 45, 32, 40]) hd (by decide)
 have hg : (0 : Int) ≤ ((p + 4 : Nat) : Int) := Int.natCast_nonneg _
 have w1 := w.put 0 rfl (sco t (p + 4) q)
 exact w.fx w1 (.tr (Tr.v (fld_of (a := (so "text")) (v := (.d (.str (t)))) (w.g 0 rfl) (by kernel_rfl)) <| Tr.v (fld_of (a := (so "place")) (v := (.d (.int (((p) : Nat) : Int)))) (w.g 0 rfl) (by kernel_rfl)) <| Tr.v (fld_of (a := (so "place")) (v := (.d (.int (((p) : Nat) : Int)))) (w.g 0 rfl) (by kernel_rfl)) <| Tr.v (gs_se (lo := (some (.int (((p) : Nat) : Int)))) (hi := (some (.int (((p + 2) : Nat) : Int)))) rfl rfl ec ht') <| Tr.v (eqs_t (x := (cp "--")) (y := (cp "--")) rfl) <| Tr.v (fld_of (a := (so "place")) (v := (.d (.int (((p) : Nat) : Int)))) (w.g 0 rfl) (by kernel_rfl)) <| Tr.v (sm_find hf) <| Tr.v (ge_t hg) <| Tr.v (sa_of (a := (so "place")) (v := (.d (.int (((p + 4) : Nat) : Int)))) (o := (sco t (p + 4) q)) (w.g 0 rfl) (by kernel_rfl) rfl (by kernel_rfl)) <| Tr.ret _) (by kernel_rfl))
theorem note_run {r : List Nat} (w : Scn x Q s0 m q t p ws u) (ht : t.length ≤ 900000) (hd : t.drop p = 47 :: 42 :: 32 :: 44 :: 32 :: 42 :: 47 :: r) : ScR (cl (n + 3) 597 [.ref m, dS [47]] u) x Q s0 m q t (p + 7) ws := by
 have ht' := to_cap ht
 have ec : cut t (some p) (some (p + 2)) = [47, 42] := by rw [cutD, hd]; rfl
 have g (k : Nat) (hk : k ≤ 7) : t.drop (p + k) = ([47, 42, 32, 44, 32, 42, 47] ++ r).drop k := by rw [← List.drop_drop, hd]; rfl
 have hl : p + 7 ≤ t.length := by
  have z := congrArg List.length (g 6 (by decide))
  rw [List.length_drop] at z
  exact Nat.lt_of_sub_eq_succ z
 have hf : findFrom t [42, 47] ((p + 2 : Nat) : Int) = ((p + 5 : Nat) : Int) := find_of (Nat.add_le_add_left (by decide) _) hl (by rw [g 5 (by decide)]; rfl) fun i h1 h2 => by
  have e : i = p + 2 ∨ i = p + 3 ∨ i = p + 4 := by omega
  rcases e with rfl | rfl | rfl
  ·rw [g 2 (by decide)]; exact nofun
  ·rw [g 3 (by decide)]; exact nofun
  ·rw [g 4 (by decide)]; exact nofun
 have hg : (0 : Int) ≤ ((p + 5 : Nat) : Int) := Int.natCast_nonneg _
 have w1 := w.put 0 rfl (sco t (p + 7) q)
 exact w.fx w1 (.tr (Tr.v (fld_of (a := (so "text")) (v := (.d (.str (t)))) (w.g 0 rfl) (by kernel_rfl)) <| Tr.v (fld_of (a := (so "place")) (v := (.d (.int (((p) : Nat) : Int)))) (w.g 0 rfl) (by kernel_rfl)) <| Tr.v (fld_of (a := (so "place")) (v := (.d (.int (((p) : Nat) : Int)))) (w.g 0 rfl) (by kernel_rfl)) <| Tr.v (gs_se (lo := (some (.int (((p) : Nat) : Int)))) (hi := (some (.int (((p + 2) : Nat) : Int)))) rfl rfl ec ht') <| Tr.v (eqs_f (x := (cp "/*")) (y := (cp "--")) (by decide)) <| Tr.v (eqs_t (x := (cp "/*")) (y := (cp "/*")) rfl) <| Tr.v (fld_of (a := (so "place")) (v := (.d (.int (((p) : Nat) : Int)))) (w.g 0 rfl) (by kernel_rfl)) <| Tr.v (sm_find hf) <| Tr.v (ge_t hg) <| Tr.v (sa_of (a := (so "place")) (v := (.d (.int (((p + 5 + 2) : Nat) : Int)))) (o := (sco t (p + 7) q)) (w.g 0 rfl) (by kernel_rfl) rfl (by kernel_rfl)) <| Tr.ret _) (by kernel_rfl))
end
section
variable {x : Nat} {Q : MObj → Prop} {s0 s u : MSt} {n m q p : Nat} {t : List Nat} {ws : List Wd} {all : List Tk}
noncomputable def blaL : List Nat := cp " \t\n\r\x0c"
noncomputable def quoL : List Nat := cp "'\"`["
structure Rl (x : Nat) (Q : MObj → Prop) (s0 : MSt) (m q : Nat) (t : List Nat) (all : List Tk) (a : Nat × List Wd) (u : MSt) : Prop where
 w : Scn x Q s0 m q t a.1 a.2 u
 l : ∃ dT rest, All2 TW dT a.2 ∧ Lx (t.drop a.1) rest ∧ dT ++ rest = all
 b : a.2.length + (t.drop a.1).length ≤ t.length
noncomputable abbrev pR (m : Nat) (t : List Nat) : EL := [(so "self", .ref m), (so "size", .d (.int (t.length : Nat)))]
theorem let_f : ∀ c ∈ letL, isSub [c] blaL = false := by decide +kernel
theorem bl_t : isSub [32] blaL = true ∧ isSub [10] blaL = true := by decide +kernel
theorem mk_f : ∀ c ∈ [40, 41, 44, 43, 45, 47], (isSub [c] blaL || isSub [c] letL || decide (127 < c) || isSub [c] figL || isSub [c] quoL) = false := by decide +kernel
theorem qu_f : ∀ c ∈ [34, 96, 91], (isSub [c] blaL || isSub [c] letL || decide (127 < c) || isSub [c] figL || !isSub [c] quoL) = false := by decide +kernel
theorem fi_f : ∀ c ∈ figL, (isSub [c] blaL || isSub [c] letL || decide (127 < c)) = false := by decide +kernel
noncomputable abbrev bodyR (n m : Nat) (t : List Nat) (E : EL) : MSt → O (Fl × LEnv) := exs (cN KK (n + 3)) (fS 541) (lpP (stAt 541 1)).2 (lk (pR m t ++ E))
theorem Rl.next {dT ts : List Tk} {k : Tk} {wd : Wd} {p' : Nat} {l r : List Nat} {u' : MSt} (w : Scn x Q s0 m q t p' (ws ++ [wd]) u') (hd : t.drop p = l) (hd' : t.drop p' = r) (hl : r.length < l.length) (h : All2 TW dT ws) (hk : TW k wd) (lx : Lx r ts) (e : dT ++ k :: ts = all) (b : ws.length + (t.drop p).length ≤ t.length) : Rl x Q s0 m q t all (p', ws ++ [wd]) u' ∧ (t.drop p').length < (t.drop p).length := by
 rw [hd] at b
 have z : (t.drop p').length < (t.drop p).length := by rw [hd, hd']; exact hl
 refine ⟨⟨w, ⟨dT ++ [k], ts, All2.append (.cons hk .nil) dT h, by rw [hd']; exact lx, by rw [lap]; exact e⟩, ?_⟩, z⟩
 rw [hd', lla, Nat.add_assoc]
 exact nlt (Nat.add_le_add_left (by rw [Nat.add_comm]; exact hl) _) b
theorem lt_app {a r : List Nat} (h : a ≠ []) : r.length < (a ++ r).length := by rw [lla]; exact Nat.lt_add_of_pos_left (List.length_pos_iff.mpr h)
theorem lt_q (c d : Nat) (a : List Nat) {r : List Nat} : r.length < (c :: (a ++ d :: r)).length := by
 rw [llc, lla, llc]; exact Nat.lt_succ_of_le (nlt (Nat.le_succ _) (Nat.le_add_left _ _))
theorem sg_mk : ∀ c ∈ sgL, c ∈ [40, 41, 44, 43, 45, 47] := by decide
theorem nil_nt : [] ∈ ntexts := by decide +kernel
theorem tw_bare {w : List Nat} {k : Tk} (h : btB w k = true) : TW k ⟨cp "name", upperA w, .str w, p⟩ := by
 have z := ((Bool.and_eq_true _ _).mp h).2
 cases k with
 | key k => exact ⟨rfl, of_decide_eq_true ((Bool.and_eq_true _ _).mp z).1⟩
 | free v =>
  have y := (Bool.and_eq_true _ _).mp z
  exact ⟨rfl, (List.any_eq_true.mp y.2).elim fun a b => (of_decide_eq_true b.2) ▸ b.1, congrArg D.str (of_decide_eq_true y.1).symm⟩
 | _ => cases z
theorem run_step {E : EL} (ht : t.length ≤ 900000) (I : Rl x Q s0 m q t all (p, ws) u) : Wst (tst (cN KK (n + 3)) (lpP (stAt 541 1)).1 (fS 541) (lk (pR m t ++ E)) u) (bodyR n m t E) (fun _ => pR m t) (Rl x Q s0 m q t all) (fun a u => Rl x Q s0 m q t all a u ∧ t.drop a.1 = []) (fun a => (t.drop a.1).length) (p, ws) := by
 have w := I.w
 have ht' := to_cap ht
 have hw : t.drop p ≠ [] → ws.length < cap := fun h => lll (lll (Nat.lt_add_of_pos_right (List.length_pos_iff.mpr h)) I.b) ht'
 refine I.l.elim fun dT h => h.elim fun rest h => ?_
 have hlx := h.2.1
 generalize hdr : t.drop p = l at hlx
 have go : ∀ {c : Nat} {l' : List Nat}, t.drop p = c :: l' → ∀ {a' : Nat × List Wd} {u' : MSt} {E' : EL}, exs (cN KK (n + 3)) (fS 541) (lpP (stAt 541 1)).2 (lk (pR m t ++ E)) u = .ok (.next, lk (E' ++ (pR m t ++ E))) u' → Pre (pR m t) (E' ++ (pR m t ++ E)) → Rl x Q s0 m q t all a' u' ∧ (t.drop a'.1).length < (t.drop p).length → Wst (tst (cN KK (n + 3)) (lpP (stAt 541 1)).1 (fS 541) (lk (pR m t ++ E)) u) (bodyR n m t E) (fun _ => pR m t) (Rl x Q s0 m q t all) (fun a u => Rl x Q s0 m q t all a u ∧ t.drop a.1 = []) (fun a => (t.drop a.1).length) (p, ws) := by
  intro c l' hd a' u' E' e hp j
  have hlt : (p : Int) < (t.length : Int) := Int.ofNat_lt.mpr (at0 hd).2.2
  exact .go u (ts_run (Tr.v (fld_of (a := (so "place")) (v := (.d (.int ((((p, ws).fst) : Nat) : Int)))) (w.g 0 rfl) (by kernel_rfl)) <| Tr.v (lt_t hlt) <| Tr.ret _) (by kernel_rfl)) ⟨a', _, u', e, hp, j⟩
 have mk : ∀ {c : Nat} {l' : List Nat}, t.drop p = c :: l' → c ∈ [40, 41, 44, 43, 45, 47] → ∀ {p' : Nat} {ws' : List Wd}, ScR (cl (n + 3) 597 [.ref m, dS [c]] u) x Q s0 m q t p' ws' → (∀ u', Scn x Q s0 m q t p' ws' u' → Rl x Q s0 m q t all (p', ws') u' ∧ (t.drop p').length < (t.drop p).length) → Wst (tst (cN KK (n + 3)) (lpP (stAt 541 1)).1 (fS 541) (lk (pR m t ++ E)) u) (bodyR n m t E) (fun _ => pR m t) (Rl x Q s0 m q t all) (fun a u => Rl x Q s0 m q t all a u ∧ t.drop a.1 = []) (fun a => (t.drop a.1).length) (p, ws) := by
  intro c l' hd hc p' ws' h j
  have hg := (at0 hd).1
  have z := Bool.or_eq_false_iff.mp (mk_f c hc)
  have z1 := Bool.or_eq_false_iff.mp z.1
  have z2 := Bool.or_eq_false_iff.mp z1.1
  have z3 := Bool.or_eq_false_iff.mp z2.1
  have hb := z3.1
  have hl := z3.2
  have hf := z1.2
  have hq := z.2
  have ho : ¬ (127 : Int) < (c : Int) := fun h => absurd (Int.ofNat_lt.mp h) (of_decide_eq_false z2.2)
  refine h.elim fun u' e w' => ?_
  exact go hd (E' := [(so "sign", dS [c])]) (xs_on (Tr.v (fld_of (a := (so "text")) (v := (.d (.str (t)))) (w.g 0 rfl) (by kernel_rfl)) <| Tr.v (fld_of (a := (so "place")) (v := (.d (.int ((((p, ws).fst) : Nat) : Int)))) (w.g 0 rfl) (by kernel_rfl)) <| Tr.v (gi_s hg ht') <| Tr.v (in_s hb) <| Tr.v (in_s hl) <| Tr.v (ord_s (c)) <| Tr.v (gt_f ho) <| Tr.v (in_s hf) <| Tr.v (in_s hq) <| Tr.v (mth_of (a := (so "mark")) (f := 597) (w.g 0 rfl) (by kernel_rfl)) <| Tr.v (e) <| Tr.ret _) (by kernel_rfl)) rfl (j u' w')
 have qu : ∀ {c : Nat} {l' : List Nat}, t.drop p = c :: l' → c ∈ [34, 96, 91] → ∀ {p' : Nat} {ws' : List Wd}, ScR (cl (n + 3) 569 [.ref m, dS [c]] u) x Q s0 m q t p' ws' → (∀ u', Scn x Q s0 m q t p' ws' u' → Rl x Q s0 m q t all (p', ws') u' ∧ (t.drop p').length < (t.drop p).length) → Wst (tst (cN KK (n + 3)) (lpP (stAt 541 1)).1 (fS 541) (lk (pR m t ++ E)) u) (bodyR n m t E) (fun _ => pR m t) (Rl x Q s0 m q t all) (fun a u => Rl x Q s0 m q t all a u ∧ t.drop a.1 = []) (fun a => (t.drop a.1).length) (p, ws) := by
  intro c l' hd hc p' ws' h j
  have hg := (at0 hd).1
  have z := Bool.or_eq_false_iff.mp (qu_f c hc)
  have z1 := Bool.or_eq_false_iff.mp z.1
  have z2 := Bool.or_eq_false_iff.mp z1.1
  have z3 := Bool.or_eq_false_iff.mp z2.1
  have hb := z3.1
  have hl := z3.2
  have hf := z1.2
  have hq : isSub [c] quoL = true := by have y := z.2; rwa [Bool.not_eq_false'] at y
  have ho : ¬ (127 : Int) < (c : Int) := fun h => absurd (Int.ofNat_lt.mp h) (of_decide_eq_false z2.2)
  refine h.elim fun u' e w' => ?_
  exact go hd (E' := [(so "sign", dS [c])]) (xs_on (Tr.v (fld_of (a := (so "text")) (v := (.d (.str (t)))) (w.g 0 rfl) (by kernel_rfl)) <| Tr.v (fld_of (a := (so "place")) (v := (.d (.int ((((p, ws).fst) : Nat) : Int)))) (w.g 0 rfl) (by kernel_rfl)) <| Tr.v (gi_s hg ht') <| Tr.v (in_s hb) <| Tr.v (in_s hl) <| Tr.v (ord_s (c)) <| Tr.v (gt_f ho) <| Tr.v (in_s hf) <| Tr.v (in_s hq) <| Tr.v (mth_of (a := (so "quoted_word")) (f := 569) (w.g 0 rfl) (by kernel_rfl)) <| Tr.v (e) <| Tr.ret _) (by kernel_rfl)) rfl (j u' w')
 cases hlx with
 | nil =>
  have hlt : ¬ (p : Int) < (t.length : Int) := Int.not_lt.mpr (Int.ofNat_le.mpr (List.drop_eq_nil_iff.mp hdr))
  exact .stop u (ts_run (Tr.v (fld_of (a := (so "place")) (v := (.d (.int ((((p, ws).fst) : Nat) : Int)))) (w.g 0 rfl) (by kernel_rfl)) <| Tr.v (lt_f hlt) <| Tr.ret _) (by kernel_rfl)) ⟨I, hdr⟩
 | @blank c r ts hc lx =>
  have hg := (at0 hdr).1
  have hb : isSub [c] blaL = true := hc.elim (fun e => e ▸ bl_t.1) fun e => e ▸ bl_t.2
  have w1 := w.put 0 rfl (sco t (p + 1) q)
  refine go hdr (a' := (p + 1, ws)) (E' := [(so "sign", dS [c])]) (xs_on (Tr.v (fld_of (a := (so "text")) (v := (.d (.str (t)))) (w.g 0 rfl) (by kernel_rfl)) <| Tr.v (fld_of (a := (so "place")) (v := (.d (.int ((((p, ws).fst) : Nat) : Int)))) (w.g 0 rfl) (by kernel_rfl)) <| Tr.v (gi_s hg ht') <| Tr.v (in_s hb) <| Tr.v (fld_of (a := (so "place")) (v := (.d (.int ((((p, ws).fst) : Nat) : Int)))) (w.g 0 rfl) (by kernel_rfl)) <| Tr.v (sa_of (a := (so "place")) (v := (.d (.int ((((p, ws).fst + 1) : Nat) : Int)))) (o := (sco t (p + 1) q)) (w.g 0 rfl) (by kernel_rfl) rfl (by kernel_rfl)) <| Tr.ret _) (by kernel_rfl)) rfl ⟨⟨w1, ⟨dT, _, h.1, by rw [(at0 hdr).2.1]; exact lx, h.2.2⟩, ?_⟩, ?_⟩
  ·rw [(at0 hdr).2.1]; exact nlt (Nat.add_le_add_left (nol (by rw [hdr]; exact nls _)) _) I.b
  ·rw [(at0 hdr).2.1, hdr]; exact nls _
 | @line r ts lx =>
  refine mk hdr (by decide) (line_run (n := n) w ht hdr) fun u' w' => ⟨⟨w', ⟨dT, _, h.1, ?_, h.2.2⟩, ?_⟩, ?_⟩ <;> rw [show t.drop (p + 4) = 10 :: r by rw [← List.drop_drop, hdr]; rfl]
  ·exact lx
  ·exact nlt (Nat.add_le_add_left (nol (by rw [hdr]; exact lt_app (a := [45, 45, 32, 40]) (List.cons_ne_nil _ _))) _) I.b
  ·rw [hdr]; exact lt_app (a := [45, 45, 32, 40]) (List.cons_ne_nil _ _)
 | @note r ts lx =>
  refine mk hdr (by decide) (note_run (n := n) w ht hdr) fun u' w' => ⟨⟨w', ⟨dT, _, h.1, ?_, h.2.2⟩, ?_⟩, ?_⟩ <;> rw [show t.drop (p + 7) = r by rw [← List.drop_drop, hdr]; rfl]
  ·exact lx
  ·exact nlt (Nat.add_le_add_left (nol (by rw [hdr]; exact lt_app (a := [47, 42, 32, 44, 32, 42, 47]) (List.cons_ne_nil _ _))) _) I.b
  ·rw [hdr]; exact lt_app (a := [47, 42, 32, 44, 32, 42, 47]) (List.cons_ne_nil _ _)
 | @sign c r ts hc hn lx =>
  exact mk hdr (sg_mk c (hasN_in hc)) (sign_run (n := n) w (hw (by rw [hdr]; exact List.cons_ne_nil _ _)) ht hdr (hasN_in hc) hn) fun u' w' => Rl.next w' hdr (at0 hdr).2.1 (lt_app (a := [c]) (List.cons_ne_nil _ _)) h.1 (k := .sg c) ⟨rfl, rfl⟩ lx h.2.2 I.b
 | @brack y r ts hy lx =>
  exact qu hdr (by decide) (bracket_run (n := n) w (hw (by rw [hdr]; exact List.cons_ne_nil _ _)) ht' hdr hy) fun u' w' => Rl.next w' hdr (at0 (at_app (at0 hdr).2.1)).2.1 (lt_q _ _ _) h.1 (k := .free y) ⟨rfl, nil_nt, rfl⟩ lx h.2.2 I.b
 | @quote c y r ts hy hs lx =>
  refine (quoted_run (n := n) w (hw (by rw [hdr]; exact List.cons_ne_nil _ _)) ht' hdr hy hs).elim fun p' z => ?_
  exact qu hdr (hy.1.elim (fun e => by rw [e]; decide) fun e => by rw [e]; decide) z.1 fun u' w' => Rl.next w' hdr z.2 (lt_q _ _ _) h.1 (k := .free y) ⟨rfl, nil_nt, rfl⟩ lx h.2.2 I.b
 | @num w' r ts hn hs lx =>
  have f := num_f hn
  obtain ⟨c, l', ew⟩ : ∃ c l', w' = c :: l' := by
   cases w' with
   | nil => exact absurd rfl f.n
   | cons c l' => exact ⟨c, l', rfl⟩
  have hd2 : t.drop p = c :: (l' ++ r) := by rw [hdr, ew]; rfl
  have hg := (at0 hd2).1
  have hf := f.d c (by rw [ew]; exact .head _)
  have z := Bool.or_eq_false_iff.mp (fi_f c (hasN_in ((isSub_one c figL).symm.trans hf)))
  have z1 := Bool.or_eq_false_iff.mp z.1
  have hb := z1.1
  have hl := z1.2
  have ho : ¬ (127 : Int) < (c : Int) := fun h => absurd (Int.ofNat_lt.mp h) (of_decide_eq_false z.2)
  refine (number_run (n := n) w (hw (by rw [hd2]; exact List.cons_ne_nil _ _)) ht hdr f hs).elim fun u' e w2 => ?_
  exact go hd2 (E' := [(so "sign", dS [c])]) (xs_on (Tr.v (fld_of (a := (so "text")) (v := (.d (.str (t)))) (w.g 0 rfl) (by kernel_rfl)) <| Tr.v (fld_of (a := (so "place")) (v := (.d (.int ((((p, ws).fst) : Nat) : Int)))) (w.g 0 rfl) (by kernel_rfl)) <| Tr.v (gi_s hg ht') <| Tr.v (in_s hb) <| Tr.v (in_s hl) <| Tr.v (ord_s (c)) <| Tr.v (gt_f ho) <| Tr.v (in_s hf) <| Tr.v (mth_of (a := (so "number")) (f := 583) (w.g 0 rfl) (by kernel_rfl)) <| Tr.v (e) <| Tr.ret _) (by kernel_rfl)) rfl (Rl.next w2 hdr (at_app hdr) (lt_app f.n) h.1 (k := .nu (numOf w')) ⟨rfl, rfl⟩ lx h.2.2 I.b)
 | @bare w' r k ts hk hs lx =>
  obtain ⟨c, l', ew⟩ : ∃ c l', w' = c :: l' := by
   cases w' with
   | nil => cases hk
   | cons c l' => exact ⟨c, l', rfl⟩
  subst ew
  have hok := ((Bool.and_eq_true _ _).mp hk).1
  have hd2 : t.drop p = c :: (l' ++ r) := hdr
  have hg := (at0 hd2).1
  have hm := hasN_in ((Bool.and_eq_true _ _).mp hok).1
  have hb := let_f c hm
  have hl : isSub [c] letL = true := (isSub_one c letL).trans ((Bool.and_eq_true _ _).mp hok).1
  refine (bare_run (n := n) w (hw (by rw [hd2]; exact List.cons_ne_nil _ _)) ht hdr hok hs).elim fun u' e w2 => ?_
  exact go hd2 (E' := [(so "sign", dS [c])]) (xs_on (Tr.v (fld_of (a := (so "text")) (v := (.d (.str (t)))) (w.g 0 rfl) (by kernel_rfl)) <| Tr.v (fld_of (a := (so "place")) (v := (.d (.int ((((p, ws).fst) : Nat) : Int)))) (w.g 0 rfl) (by kernel_rfl)) <| Tr.v (gi_s hg ht') <| Tr.v (in_s hb) <| Tr.v (in_s hl) <| Tr.v (mth_of (a := (so "bare")) (f := 555) (w.g 0 rfl) (by kernel_rfl)) <| Tr.v (e) <| Tr.ret _) (by kernel_rfl)) rfl (Rl.next w2 hdr (at_app (at0 hd2).2.1) (lt_app (a := c :: l') (List.cons_ne_nil _ _)) h.1 (k := k) (tw_bare hk) lx h.2.2 I.b)
end
section
variable {x : Nat} {Q : MObj → Prop} {s0 s u : MSt} {n m q p : Nat} {t : List Nat} {ws : List Wd} {all : List Tk}
noncomputable def endW (p : Nat) : Wd := ⟨cp "end", [], .none, p⟩
inductive WsR (r : O MV) (t : List Nat) (all : List Tk) (s : MSt) : Prop
 | mk (ws : List Wd) (p : Nat) (s' : MSt) (e : r = .ok (.d (.lst ((ws ++ [endW p]).map wdD))) s') (h : Nt s s') (a : All2 TW all ws) (hp : t.length ≤ p) (l : ws.length ≤ t.length)
theorem lx_nil {l : List Nat} {ts : List Tk} (h : Lx l ts) (e : l = []) : ts = [] := by
 cases h with
 | nil => rfl
 | bare h _ _ => rw [(List.append_eq_nil_iff.mp e).1] at h; cases h
 | num h _ _ => rw [(List.append_eq_nil_iff.mp e).1] at h; rcases h with h | h | h <;> cases h
 | _ => cases e
theorem run_run (w : Scn x Q s0 m q t 0 [] u) (ht : t.length ≤ 900000) (h : Lx t all) : ∃ ws p u', cl (n + 4) 541 [.ref m] u = .ok (.d (.lst ((ws ++ [endW p]).map wdD))) u' ∧ Fw x Q s0 [] u' ∧ All2 TW all ws ∧ t.length ≤ p ∧ ws.length ≤ t.length := by
 have ht' := to_cap ht
 refine (wx_run (n := n + 3) (sc := fS 541) (st := stAt 541 1) (u := u) (E := [(so "size", .d (.int (t.length : Nat))), (so "self", .ref m)]) (pre := fun _ => pR m t) (I := Rl x Q s0 m q t all) (J := fun a u => Rl x Q s0 m q t all a u ∧ t.drop a.1 = []) (μ := fun a => (t.drop a.1).length) (a := (0, [])) (by kernel_rfl) (fun a E u I => run_step (n := n) (p := a.1) (ws := a.2) ht I) ?_ rfl ⟨w, ⟨[], all, .nil, h, rfl⟩, ?_⟩).elim fun a E u1 e1 j => ?_
 ·exact nll ht (by decide)
 ·exact noe (Nat.zero_add _)
 ·have w1 := j.1.w
  have hl : a.2.length ≤ t.length := nlt (nla _ _) j.1.b
  refine (gather_run (n := n + 1) (k := cp "end") (tx := []) (v := .none) (e := a.1) w1 (nll (nlt hl ht) (by decide))).elim fun u2 e2 w2 => ?_
  have e : Ends 541 (n + 3) [.ref m] u (.ref q) u2 := .tr (Tr.v (fld_of (a := (so "text")) (v := (.d (.str (t)))) (w.g 0 rfl) (by kernel_rfl)) <| Tr.v (len_s (l := (t)) ht') <| Tr.x (e1) <| Tr.v (mth_of (a := (so "gather")) (f := 527) (w1.g 0 rfl) (by kernel_rfl)) <| Tr.v (fld_of (a := (so "place")) (v := (.d (.int (((a.fst) : Nat) : Int)))) (w1.g 0 rfl) (by kernel_rfl)) <| Tr.v (e2) <| Tr.v (fld_of (a := (so "found")) (v := (.ref (q))) (w2.g 0 rfl) (by kernel_rfl)) <| Tr.ret _) (by kernel_rfl)
  refine ⟨a.2, a.1, _, Eq.trans e (hb_of (frz_lst (k := 4) (w2.g 1 rfl))), (w2.put 1 rfl .gone).cut0 (nlt w.n (nlr _)), ?_, List.drop_eq_nil_iff.mp j.2, hl⟩
  refine j.1.l.elim fun dT l => l.elim fun rest l => ?_
  have l2 := l.2.1
  rw [j.2] at l2
  have er : rest = [] := lx_nil l2 rfl
  have l3 := l.2.2
  rw [er, lan] at l3
  exact l3 ▸ l.1
theorem init_520 (hm : m < s.next) (h : s.objs m = .inst 607 []) : Fr (cl (n + 1) 520 [.ref m, dS t] s) (.d .none) m (Is (sco t 0 s.next)) s [(s.next, fdO [])] := by
 have w0 := Fw.start (Q := Is (.inst 607 [])) hm h
 have w1 := w0.px (Q' := Is (.inst 607 [(so "text", dS t)])) rfl
 have w2 := w1.px (Q' := Is (.inst 607 [(so "text", dS t), (so "place", .d (.int 0))])) rfl
 have w3 := w2.nw (fdO [])
 have w4 := w3.px (Q' := Is (.inst 607 [(so "text", dS t), (so "place", .d (.int 0)), (so "found", .ref s.next)])) rfl
 have w5 := w4.px (Q' := Is (sco t 0 s.next)) rfl
 exact ⟨_, Ends.toK (.tr (Tr.v (sa_of (a := (so "text")) (v := (.d (.str (t)))) (o := (MObj.inst 607 [(so "text", dS t)])) w0.q (by kernel_rfl) rfl (by kernel_rfl)) <| Tr.v (sa_of (a := (so "place")) (v := (.d (.int 0))) (o := (MObj.inst 607 [(so "text", dS t), (so "place", MV.d (D.int 0))])) w1.q (by kernel_rfl) rfl (by kernel_rfl)) <| Tr.v (mkl (l := []) (lbe rfl)) <| Tr.v (sa_of (a := (so "found")) (v := (.ref ((pt (pt s m (MObj.inst 607 [(so "text", dS t)])) m (MObj.inst 607 [(so "text", dS t), (so "place", MV.d (D.int 0))])).next))) (o := (MObj.inst 607 [(so "text", dS t), (so "place", MV.d (D.int 0)), (so "found", MV.ref s.next)])) w3.q (by kernel_rfl) rfl (by kernel_rfl)) <| Tr.v (sa_of (a := (so "greatest")) (v := (.d (.int 0))) (o := (sco t 0 s.next)) w4.q (by kernel_rfl) rfl (by kernel_rfl)) <| Tr.ret _) (by kernel_rfl)), w5⟩
theorem new_i {c ini : Nat} {args : List MV} {u' : MSt} (hf : T0.fn c = none) (hc : ((T0.cls c).map fun ci => (ci.init, ci.froz)) = some (ini, false)) (hi : cl n ini (.ref s.next :: args) (nw s (.inst c [])) = .ok (.d .none) u') : callGlob (cN KK n) c args s = .ok (.ref s.next) u' := by
 refine (mes hc).elim fun ci z => ?_
 have e1 : callGlob (cN KK n) c args s = newInst (cN KK n) c ci args s := by unfold callGlob; dsimp only; rw [hf, z.1]
 have z1 := Prod.mk.inj z.2
 rw [e1]
 unfold newInst
 show M.bind (cl n ci.init (.ref s.next :: args)) (initM ci.froz c s.next) (nw s (.inst c [])) = _
 rw [z1.1, z1.2, bind_ok hi]; rfl
theorem words_run (h0 : 0 < u.next) (ht : t.length ≤ 900000) (h : Lx t all) : WsR (cl (n + 5) 618 [dS t] u) t all u := by
 have hm : u.next < (nw u (.inst 607 [])).next := nls _
 refine (init_520 (n := n + 3) (t := t) (s := nw u (.inst 607 [])) hm (uS ..)).elim fun u1 e1 w1 => ?_
 have e2 := new_i (c := 607) (s := u) (by kernel_rfl) (by kernel_rfl) e1
 have w2 : Scn 0 (Is (u.objs 0)) u u.next (u.next + 1) t 0 [] u1 := by
  have k : ∀ k, k < u.next → u1.objs k = u.objs k := fun k h => (w1.k k (Nat.lt_succ_of_lt h) (nnl h)).trans (uN (nnl h))
  refine ⟨⟨Nat.le_of_succ_le w1.n, fun i h _ => k i h, k 0 h0⟩, h0, fun p hp => (lmc hp).elim (fun e => e ▸ ⟨w1.q, nlr _, w1.n⟩) fun h => (List.mem_singleton.mp h) ▸ ⟨w1.g 0 rfl, Nat.le_succ _, w1.lt 0 rfl⟩, .cons (fun p hp e => ?_) (.cons (fun _ h => nomatch h) .nil)⟩
  rw [List.mem_singleton.mp hp] at e
  exact nnl (nls _) e
 have w0 := Fw.start (s := u) (Q := Is (u.objs 0)) h0 rfl
 refine (run_run (n := n) w2 ht h).elim fun ws z => z.elim fun p z => z.elim fun u2 z => ?_
 have e3 := z.1
 have w3 := z.2.1
 have e : Ends 618 (n + 4) [dS t] u (.d (.lst ((ws ++ [endW p]).map wdD))) u2 := .tr (Tr.v (e2) <| Tr.v (mth_of (a := (so "run")) (f := 541) (w2.g 0 rfl) (by kernel_rfl)) <| Tr.v (e3) <| Tr.ret _) (by kernel_rfl)
 exact ⟨ws, p, _, e.toD, ⟨w3.n, fun k h => (above_lt h).trans ((Classical.em (k = 0)).elim (fun e => by rw [e]; exact w3.q) (w3.k k h))⟩, z.2.2.1, z.2.2.2.1, z.2.2.2.2⟩
end
end
section
open PySem
set_option genInjectivity false
set_option genSizeOf false
noncomputable section
def resL : List (List Nat) := [cp "ADD", cp "ALL", cp "ALTER", cp "AND", cp "AS", cp "AUTOINCREMENT", cp "BETWEEN", cp "CASE", cp "CHECK", cp "COLLATE", cp "COMMIT", cp "CONSTRAINT", cp "CREATE", cp "DEFAULT", cp "DEFERRABLE", cp "DELETE", cp "DISTINCT", cp "DROP", cp "ELSE", cp "ESCAPE", cp "EXCEPT", cp "EXISTS", cp "FOREIGN", cp "FROM", cp "GROUP", cp "HAVING", cp "IN", cp "INDEX", cp "INSERT", cp "INTERSECT", cp "INTO", cp "IS", cp "ISNULL", cp "JOIN", cp "LIMIT", cp "NOT", cp "NOTHING", cp "NOTNULL", cp "NULL", cp "ON", cp "OR", cp "ORDER", cp "PRIMARY", cp "REFERENCES", cp "RETURNING", cp "SELECT", cp "SET", cp "TABLE", cp "THEN", cp "TO", cp "TRANSACTION", cp "UNION", cp "UNIQUE", cp "UPDATE", cp "USING", cp "VALUES", cp "WHEN", cp "WHERE"]
def joiL : List (List Nat) := [cp "CROSS", cp "FULL", cp "INDEXED", cp "INNER", cp "LEFT", cp "NATURAL", cp "OUTER", cp "RIGHT"]
noncomputable def inL (l : List (List Nat)) : Tk → Bool
 | .key k => anyS k l
 | _ => false
noncomputable def isNm : Tk → Bool
 | .key _ => true
 | .free _ => true
 | _ => false
noncomputable def isK (k : List Nat) (x : Tk) : Bool := inL [k] x
noncomputable def isG (c : Nat) : Tk → Bool
 | .sg d => Nat.beq d c
 | _ => false
def isF (x : Tk) : Bool := isNm x && !inL resL x
def isP (x : Tk) : Bool := isF x && !inL joiL x
def noN (l : List (List Nat)) : Bool := ntexts.all fun x => !anyS x l
end
section
variable {x : Nat} {Q : MObj → Prop} {s0 : MSt} {n : Nat} {s u : MSt} {w : Wd} {k : Tk} {l : List (List Nat)} {c : Nat}
theorem tw_nm (h : TW k w) : (isNm k = true → w.kind = cp "name") ∧ (isNm k = false → ¬ w.kind = cp "name") := by
 cases k with
 | key => exact ⟨fun _ => h.1, nofun⟩
 | free => exact ⟨fun _ => h.1, nofun⟩
 | sg => exact ⟨nofun, fun _ => by rw [h.1]; decide⟩
 | nu => exact ⟨nofun, fun _ => by rw [h.1]; decide⟩
 | en => exact ⟨nofun, fun _ => by rw [show w.kind = cp "end" from h]; decide⟩
theorem tw_in (h : TW k w) (hn : isNm k = true) (hl : noN l = true) : anyS w.text l = inL l k := by
 cases k with
 | key => rw [h.2]; rfl
 | free => exact (Bool.not_eq_true' _).mp (List.all_eq_true.mp hl _ h.2.1)
 | _ => cases hn
theorem any_one {a b : List Nat} {v : Bool} (h : anyS a [b] = v) : decide (a = b) = v := (Bool.or_false _).symm.trans h
theorem any_L {x : List Nat} {v : Bool} (h : anyS x l = v) : strEqAny x (SD l) = some v := by
 subst h; exact congrArg (Option.map fun ys => List.any ys fun y => decide (x = y)) (strsD_SD l)
theorem nm_ff {a : Bool} (h : isNm k = false) : (isNm k && a) = false := by rw [h]; rfl
theorem w_key {t : List Nat} (w0 : Fw x Q s0 [] u) (h : TW k w) (hl : noN [t] = true) : Qt (cl (n + 1) 478 [.d (wdD w), dS t] u) (.d (.bool (isK t k))) u := by
 cases hn : isNm k with
 | false =>
  have h1 := (tw_nm h).2 hn
  have e : isK t k = false := by cases k with | key => cases hn | free => cases hn | _ => rfl
  rw [e]
  exact ⟨_, Ends.toD (.tr (Tr.v (eqs_f h1) <| Tr.ret _) (by kernel_rfl)), .back u⟩
 | true =>
  have h1 := (tw_nm h).1 hn
  have h2 := any_one (tw_in h hn hl)
  show Qt _ (.d (.bool (inL [t] k))) u
  cases hb : inL [t] k with
  | true =>
   rw [hb] at h2
   have h3 := of_decide_eq_true h2
   exact ⟨_, Ends.toD (.tr (Tr.v (eqs_t h1) <| Tr.v (eqs_t h3) <| Tr.ret _) (by kernel_rfl)), .back u⟩
  | false =>
   rw [hb] at h2
   have h3 := of_decide_eq_false h2
   exact ⟨_, Ends.toD (.tr (Tr.v (eqs_t h1) <| Tr.v (eqs_f h3) <| Tr.ret _) (by kernel_rfl)), .back u⟩
theorem w_sign (w0 : Fw x Q s0 [] u) (h : TW k w) : Qt (cl (n + 1) 471 [.d (wdD w), dS [c]] u) (.d (.bool (isG c k))) u := by
 have no : ¬ w.kind = cp "sign" → isG c k = false → Qt (cl (n + 1) 471 [.d (wdD w), dS [c]] u) (.d (.bool (isG c k))) u := by
  intro h1 e
  rw [e]
  exact ⟨_, Ends.toD (.tr (Tr.v (eqs_f h1) <| Tr.ret _) (by kernel_rfl)), .back u⟩
 cases k with
 | key => exact no (by rw [h.1]; decide) rfl
 | free => exact no (by rw [h.1]; decide) rfl
 | nu => exact no (by rw [h.1]; decide) rfl
 | en => exact no (by rw [show w.kind = cp "end" from h]; decide) rfl
 | sg d =>
  have h1 := h.1
  show Qt _ (.d (.bool (Nat.beq d c))) u
  cases hb : Nat.beq d c with
  | true =>
   have h3 : w.text = [c] := by rw [h.2, Nat.eq_of_beq_eq_true hb]
   exact ⟨_, Ends.toD (.tr (Tr.v (eqs_t h1) <| Tr.v (eqs_t h3) <| Tr.ret _) (by kernel_rfl)), .back u⟩
  | false =>
   have h3 : ¬ w.text = [c] := fun e => Nat.ne_of_beq_eq_false hb (List.cons.inj (h.2.symm.trans e)).1
   exact ⟨_, Ends.toD (.tr (Tr.v (eqs_t h1) <| Tr.v (eqs_f h3) <| Tr.ret _) (by kernel_rfl)), .back u⟩
theorem w_free (w0 : Fw x Q s0 [] u) (h : TW k w) : Qt (cl (n + 1) 485 [.d (wdD w)] u) (.d (.bool (isF k))) u := by
 unfold isF
 cases hn : isNm k with
 | false =>
  have h1 := (tw_nm h).2 hn
  exact ⟨_, Ends.toD (.tr (Tr.v (eqs_f h1) <| Tr.ret _) (by kernel_rfl)), .back u⟩
 | true =>
  have h1 := (tw_nm h).1 hn
  have h2 := any_L (tw_in h hn (l := resL) (by kernel_rfl))
  exact ⟨_, Ends.toD (.tr (Tr.v (eqs_t h1) <| Tr.v (ni_t h2) <| Tr.ret _) (by kernel_rfl)), .back u⟩
theorem w_plain (w0 : Fw x Q s0 [] u) (h : TW k w) : Qt (cl (n + 2) 492 [.d (wdD w)] u) (.d (.bool (isP k))) u := by
 refine (w_free (n := n) w0 h).elim fun u1 e1 h1 => ?_
 have w1 := w0.nt h1
 unfold isP
 cases hf : isF k with
 | false =>
  rw [hf] at e1
  exact ⟨_, Ends.toD (.tr (Tr.v (e1) <| Tr.ret _) (by kernel_rfl)), ⟨h1.n, fun k h => (above_lt h).trans (h1.k k h)⟩⟩
 | true =>
  rw [hf] at e1
  have h2 := any_L (tw_in h ((Bool.and_eq_true _ _).mp hf).1 (l := joiL) (by kernel_rfl))
  exact ⟨_, Ends.toD (.tr (Tr.v (e1) <| Tr.v (ni_t h2) <| Tr.ret _) (by kernel_rfl)), ⟨h1.n, fun k h => (above_lt h).trans (h1.k k h)⟩⟩
end
noncomputable def stm (t : List Nat) (ws : List Wd) (i : Nat) : MObj := .inst 837 [(so "text", dS t), (so "words", .d (.lst (ws.map wdD))), (so "at", .d (.int i)), (so "depth", .d (.int 0))]
inductive Stm (t : List Nat) (toks : List Tk) (o : MObj) : Prop
 | mk (ws : List Wd) (i : Nat) (e : o = stm t ws i) (a : All2 TW toks (ws.drop i)) (l : ws.length ≤ 900000) (p : ∀ w ∈ ws, w.kind = cp "end" → t.length ≤ w.place)
section
variable {n m : Nat} {s u : MSt} {t : List Nat} {k : Tk} {r toks : List Tk} {v : MV} {x : Nat} {Q Q' : MObj → Prop} {a : Nat} {args : List MV} {fs : List (Nat × MObj)} {G : Prop}
inductive Gv (r : O MV) (v : MV) (x : Nat) (Q : MObj → Prop) (s : MSt) : Prop
 | mk (s' : MSt) (e : r = .ok v s') (m : Mv x Q s s')
theorem Gv.elim {r : O MV} (c : Gv r v x Q s) (k : ∀ s', r = .ok v s' → Mv x Q s s' → G) : G := by cases c with | mk s' e m => exact k s' e m
theorem Gv.cast {r : O MV} {v' : MV} (c : Gv r v x Q s) (e : v = v') : Gv r v' x Q s := e ▸ c
theorem Fw.imp (w : Fw x Q s fs u) (h : Q (u.objs x) → Q' (u.objs x)) : Fw x Q' s fs u := ⟨⟨w.n, w.k, h w.q⟩, w.xl, w.o, w.pw⟩
theorem Fw.gv {d : D} (w : Fw x Q s fs u) (e : Ends a n args s (.d d) u) (hk : T0.keep a = false := by rfl) : Gv (cl (n + 1) a args s) (.d d) x Q s := ⟨_, e.toD hk, w.out fun _ _ => rfl⟩
theorem Ends.exc (tr : Tr MV s .exc) (e : tr.on (fnP T0 KK n a args) = tr.ops) : cl (n + 1) a args s = .exc := run tr e
structure Hd (t : List Nat) (k : Tk) (r : List Tk) (ws : List Wd) (i : Nat) (w : Wd) : Prop where
 g : (ws.map wdD)[i]? = some (wdD w)
 h : TW k w
 a : All2 TW r (ws.drop (i + 1))
 l : ws.length ≤ 900000
 p : ∀ w ∈ ws, w.kind = cp "end" → t.length ≤ w.place
 z : 0 ≤ (i : Int) ∧ (i : Int) < 2 ^ 62
 b : All2 TW (k :: r) (ws.drop i)
 q : w.kind = cp "end" → t.length ≤ w.place
theorem Stm.hd {o : MObj} (q : Stm t (k :: r) o) (f : ∀ ws i w, o = stm t ws i → Hd t k r ws i w → G) : G := by
 cases q with | mk ws i e a l p =>
 have a' := a
 cases a with | mk w ws' e2 h a =>
 have hi : ws[i]? = some w := by rw [← Nat.add_zero i, ← List.getElem?_drop, e2]; rfl
 exact f ws i w e ⟨by rw [List.getElem?_map, hi]; rfl, h, by rw [← List.drop_drop, e2]; exact a, l, p, ⟨Int.natCast_nonneg i, Int.lt_trans (Int.ofNat_lt.mpr (lll (List.getElem?_eq_some_iff.mp hi).1 (nlt l (by decide : 900000 ≤ cap)))) cap62⟩, a', p w (List.mem_of_getElem? hi)⟩
theorem Hd.stay {ws : List Wd} {i : Nat} {w : Wd} {o : MObj} (h : Hd t k r ws i w) (e : o = stm t ws i) : Stm t (k :: r) o := ⟨ws, i, e, h.b, h.l, h.p⟩
theorem Hd.go {ws : List Wd} {i : Nat} {w : Wd} {o : MObj} (h : Hd t k r ws i w) (e : o = stm t ws (i + 1)) : Stm t r o := ⟨ws, i + 1, e, h.a, h.l, h.p⟩
theorem here_c (xl : m < s.next) (q : Stm t (k :: r) (s.objs m)) : Cal (fun w : Wd => .d (wdD w)) (cl (n + 1) 729 [.ref m] s) m (Stm t (k :: r)) s fun w => TW k w ∧ (w.kind = cp "end" → t.length ≤ w.place) := by
 refine q.hd fun ws i w e h => ?_
 have w0 := Fw.start (Q := Is (stm t ws i)) xl e
 have hi := h.z
 have hg := h.g
 exact (w0.imp fun e => h.stay e).rD w ⟨h.h, h.q⟩ (Tr.v (fld_of (a := (so "words")) (v := (.d (.lst (List.map wdD ws)))) w0.q (by kernel_rfl)) <| Tr.v (fld_of (a := (so "at")) (v := (.d (.int (((i) : Nat) : Int)))) w0.q (by kernel_rfl)) <| Tr.v (gi_lst (k := (((i) : Nat) : Int)) hi hg) <| Tr.ret _) (by kernel_rfl)
theorem go_c (xl : m < s.next) (q : Stm t (k :: r) (s.objs m)) (hk : isNm k = true ∨ ∃ v, k = .nu v) : Cal (fun w : Wd => .d (wdD w)) (cl (n + 1) 743 [.ref m] s) m (Stm t r) s (TW k) := by
 refine q.hd fun ws i w e h => ?_
 have w0 := Fw.start (Q := Is (stm t ws i)) xl e
 have hi := h.z
 have hg := h.g
 have hne : ¬ w.kind = cp "end" := hk.elim (fun z => by rw [(tw_nm h.h).1 z]; decide) fun z => z.elim fun v z => by have y := h.h; rw [z] at y; rw [y.1]; decide
 have w1 := w0.px (Q' := Is (stm t ws (i + 1))) rfl
 exact (w1.imp fun e => h.go e).rD w h.h (Tr.v (fld_of (a := (so "words")) (v := (.d (.lst (List.map wdD ws)))) w0.q (by kernel_rfl)) <| Tr.v (fld_of (a := (so "at")) (v := (.d (.int (((i) : Nat) : Int)))) w0.q (by kernel_rfl)) <| Tr.v (gi_lst (k := (((i) : Nat) : Int)) hi hg) <| Tr.v (nes_t hne) <| Tr.v (fld_of (a := (so "at")) (v := (.d (.int (((i) : Nat) : Int)))) w0.q (by kernel_rfl)) <| Tr.v (sa_of (a := (so "at")) (v := (.d (.int (((i + 1) : Nat) : Int)))) (o := (stm t ws (i + 1))) w0.q (by kernel_rfl) rfl (by kernel_rfl)) <| Tr.ret _) (by kernel_rfl)
theorem over_c (xl : m < s.next) (q : Stm t (k :: r) (s.objs m)) {b : Bool} (hb : ∀ w, TW k w → decide (w.kind = cp "end") = b) : Gv (cl (n + 1) 757 [.ref m] s) (.d (.bool b)) m (Stm t (k :: r)) s := by
 refine q.hd fun ws i w e h => ?_
 have w0 := Fw.start (Q := Is (stm t ws i)) xl e
 have hi := h.z
 have hg := h.g
 have h1 := hb w h.h
 cases b with
 | true =>
  have h2 := of_decide_eq_true h1
  exact (w0.imp fun e => h.stay e).gv (.tr (Tr.v (fld_of (a := (so "words")) (v := (.d (.lst (List.map wdD ws)))) w0.q (by kernel_rfl)) <| Tr.v (fld_of (a := (so "at")) (v := (.d (.int (((i) : Nat) : Int)))) w0.q (by kernel_rfl)) <| Tr.v (gi_lst (k := (((i) : Nat) : Int)) hi hg) <| Tr.v (eqs_t h2) <| Tr.ret _) (by kernel_rfl))
 | false =>
  have h2 := of_decide_eq_false h1
  exact (w0.imp fun e => h.stay e).gv (.tr (Tr.v (fld_of (a := (so "words")) (v := (.d (.lst (List.map wdD ws)))) w0.q (by kernel_rfl)) <| Tr.v (fld_of (a := (so "at")) (v := (.d (.int (((i) : Nat) : Int)))) w0.q (by kernel_rfl)) <| Tr.v (gi_lst (k := (((i) : Nat) : Int)) hi hg) <| Tr.v (eqs_f h2) <| Tr.ret _) (by kernel_rfl))
end
end
section
open PySem
section
variable {n m : Nat} {s u : MSt} {t : List Nat} {k : Tk} {r : List Tk} {y : List Nat} {c : Nat} {l : List (List Nat)}
theorem is_key_c {b : Bool} (hb : isK y k = b) (hl : noN [y] = true) (xl : m < s.next) (q : Stm t (k :: r) (s.objs m)) : Gv (cl (n + 2) 764 [.ref m, dS y] s) (.d (.bool b)) m (Stm t (k :: r)) s := by
 subst hb
 refine q.hd fun ws i w e h => ?_
 have w0 := Fw.start (Q := Is (stm t ws i)) xl e
 have hi := h.z
 have hg := h.g
 refine (w_key (n := n) w0 h.h hl).elim fun s1 e1 h1 => ?_
 have w1 := w0.nt h1
 exact (w1.imp fun e => h.stay e).gv (.tr (Tr.v (fld_of (a := (so "words")) (v := (.d (.lst (List.map wdD ws)))) w0.q (by kernel_rfl)) <| Tr.v (fld_of (a := (so "at")) (v := (.d (.int (((i) : Nat) : Int)))) w0.q (by kernel_rfl)) <| Tr.v (gi_lst (k := (((i) : Nat) : Int)) hi hg) <| Tr.v (e1) <| Tr.ret _) (by kernel_rfl))
theorem is_sign_c {b : Bool} (hb : isG c k = b) (xl : m < s.next) (q : Stm t (k :: r) (s.objs m)) : Gv (cl (n + 2) 771 [.ref m, dS [c]] s) (.d (.bool b)) m (Stm t (k :: r)) s := by
 subst hb
 refine q.hd fun ws i w e h => ?_
 have w0 := Fw.start (Q := Is (stm t ws i)) xl e
 have hi := h.z
 have hg := h.g
 refine (w_sign (n := n) (c := c) w0 h.h).elim fun s1 e1 h1 => ?_
 have w1 := w0.nt h1
 exact (w1.imp fun e => h.stay e).gv (.tr (Tr.v (fld_of (a := (so "words")) (v := (.d (.lst (List.map wdD ws)))) w0.q (by kernel_rfl)) <| Tr.v (fld_of (a := (so "at")) (v := (.d (.int (((i) : Nat) : Int)))) w0.q (by kernel_rfl)) <| Tr.v (gi_lst (k := (((i) : Nat) : Int)) hi hg) <| Tr.v (e1) <| Tr.ret _) (by kernel_rfl))
theorem one_of_c {b : Bool} (hb : inL l k = b) (hl : noN l = true) (xl : m < s.next) (q : Stm t (k :: r) (s.objs m)) : Gv (cl (n + 1) 778 [.ref m, .d (.tup (SD l))] s) (.d (.bool b)) m (Stm t (k :: r)) s := by
 subst hb
 refine q.hd fun ws i w e h => ?_
 have w0 := Fw.start (Q := Is (stm t ws i)) xl e
 have hi := h.z
 have hg := h.g
 cases hn : isNm k with
 | false =>
  have h1 := (tw_nm h.h).2 hn
  have e : inL l k = false := by cases k with | key => cases hn | _ => rfl
  rw [e]
  exact (w0.imp fun e => h.stay e).gv (.tr (Tr.v (fld_of (a := (so "words")) (v := (.d (.lst (List.map wdD ws)))) w0.q (by kernel_rfl)) <| Tr.v (fld_of (a := (so "at")) (v := (.d (.int (((i) : Nat) : Int)))) w0.q (by kernel_rfl)) <| Tr.v (gi_lst (k := (((i) : Nat) : Int)) hi hg) <| Tr.v (eqs_f h1) <| Tr.ret _) (by kernel_rfl))
 | true =>
  have h1 := (tw_nm h.h).1 hn
  have h2 := any_L (tw_in h.h hn hl)
  exact (w0.imp fun e => h.stay e).gv (.tr (Tr.v (fld_of (a := (so "words")) (v := (.d (.lst (List.map wdD ws)))) w0.q (by kernel_rfl)) <| Tr.v (fld_of (a := (so "at")) (v := (.d (.int (((i) : Nat) : Int)))) w0.q (by kernel_rfl)) <| Tr.v (gi_lst (k := (((i) : Nat) : Int)) hi hg) <| Tr.v (eqs_t h1) <| Tr.v (in_t h2) <| Tr.ret _) (by kernel_rfl))
theorem tk_t (hb : isK y k = true) (hl : noN [y] = true) (xl : m < s.next) (q : Stm t (k :: r) (s.objs m)) : Gv (cl (n + 2) 792 [.ref m, dS y] s) (.d (.bool true)) m (Stm t r) s := by
 refine q.hd fun ws i w e h => ?_
 have w0 := Fw.start (Q := Is (stm t ws i)) xl e
 have hi := h.z
 have hg := h.g
 refine (w_key (n := n) w0 h.h hl).elim fun s1 e1 h1 => ?_
 rw [hb] at e1
 have w1 := w0.nt h1
 have w2 := w1.px (Q' := Is (stm t ws (i + 1))) rfl
 exact (w2.imp fun e => h.go e).gv (.tr (Tr.v (fld_of (a := (so "words")) (v := (.d (.lst (List.map wdD ws)))) w0.q (by kernel_rfl)) <| Tr.v (fld_of (a := (so "at")) (v := (.d (.int (((i) : Nat) : Int)))) w0.q (by kernel_rfl)) <| Tr.v (gi_lst (k := (((i) : Nat) : Int)) hi hg) <| Tr.v (e1) <| Tr.v (fld_of (a := (so "at")) (v := (.d (.int (((i) : Nat) : Int)))) w1.q (by kernel_rfl)) <| Tr.v (sa_of (a := (so "at")) (v := (.d (.int (((i + 1) : Nat) : Int)))) (o := (stm t ws (i + 1))) w1.q (by kernel_rfl) rfl (by kernel_rfl)) <| Tr.ret _) (by kernel_rfl))
theorem tk_f (hb : isK y k = false) (hl : noN [y] = true) (xl : m < s.next) (q : Stm t (k :: r) (s.objs m)) : Gv (cl (n + 2) 792 [.ref m, dS y] s) (.d (.bool false)) m (Stm t (k :: r)) s := by
 refine q.hd fun ws i w e h => ?_
 have w0 := Fw.start (Q := Is (stm t ws i)) xl e
 have hi := h.z
 have hg := h.g
 refine (w_key (n := n) w0 h.h hl).elim fun s1 e1 h1 => ?_
 rw [hb] at e1
 have w1 := w0.nt h1
 exact (w1.imp fun e => h.stay e).gv (.tr (Tr.v (fld_of (a := (so "words")) (v := (.d (.lst (List.map wdD ws)))) w0.q (by kernel_rfl)) <| Tr.v (fld_of (a := (so "at")) (v := (.d (.int (((i) : Nat) : Int)))) w0.q (by kernel_rfl)) <| Tr.v (gi_lst (k := (((i) : Nat) : Int)) hi hg) <| Tr.v (e1) <| Tr.ret _) (by kernel_rfl))
theorem tg_t (hb : isG c k = true) (xl : m < s.next) (q : Stm t (k :: r) (s.objs m)) : Gv (cl (n + 2) 799 [.ref m, dS [c]] s) (.d (.bool true)) m (Stm t r) s := by
 refine q.hd fun ws i w e h => ?_
 have w0 := Fw.start (Q := Is (stm t ws i)) xl e
 have hi := h.z
 have hg := h.g
 refine (w_sign (n := n) (c := c) w0 h.h).elim fun s1 e1 h1 => ?_
 rw [hb] at e1
 have w1 := w0.nt h1
 have w2 := w1.px (Q' := Is (stm t ws (i + 1))) rfl
 exact (w2.imp fun e => h.go e).gv (.tr (Tr.v (fld_of (a := (so "words")) (v := (.d (.lst (List.map wdD ws)))) w0.q (by kernel_rfl)) <| Tr.v (fld_of (a := (so "at")) (v := (.d (.int (((i) : Nat) : Int)))) w0.q (by kernel_rfl)) <| Tr.v (gi_lst (k := (((i) : Nat) : Int)) hi hg) <| Tr.v (e1) <| Tr.v (fld_of (a := (so "at")) (v := (.d (.int (((i) : Nat) : Int)))) w1.q (by kernel_rfl)) <| Tr.v (sa_of (a := (so "at")) (v := (.d (.int (((i + 1) : Nat) : Int)))) (o := (stm t ws (i + 1))) w1.q (by kernel_rfl) rfl (by kernel_rfl)) <| Tr.ret _) (by kernel_rfl))
theorem tg_f (hb : isG c k = false) (xl : m < s.next) (q : Stm t (k :: r) (s.objs m)) : Gv (cl (n + 2) 799 [.ref m, dS [c]] s) (.d (.bool false)) m (Stm t (k :: r)) s := by
 refine q.hd fun ws i w e h => ?_
 have w0 := Fw.start (Q := Is (stm t ws i)) xl e
 have hi := h.z
 have hg := h.g
 refine (w_sign (n := n) (c := c) w0 h.h).elim fun s1 e1 h1 => ?_
 rw [hb] at e1
 have w1 := w0.nt h1
 exact (w1.imp fun e => h.stay e).gv (.tr (Tr.v (fld_of (a := (so "words")) (v := (.d (.lst (List.map wdD ws)))) w0.q (by kernel_rfl)) <| Tr.v (fld_of (a := (so "at")) (v := (.d (.int (((i) : Nat) : Int)))) w0.q (by kernel_rfl)) <| Tr.v (gi_lst (k := (((i) : Nat) : Int)) hi hg) <| Tr.v (e1) <| Tr.ret _) (by kernel_rfl))
theorem st_mth {toks : List Tk} {nm : Str} {f : Nat} (q : Stm t toks (s.objs m)) (h : ∀ (ws : List Wd) (i : Nat), mthO 837 [(so "text", dS t), (so "words", .d (.lst (ws.map wdD))), (so "at", .d (.int (i : Nat))), (so "depth", .d (.int 0))] m nm = some (.fn f (.ref m))) : mM (optM (methOf T0 (.ref m) nm)) s = .ok (.d (.glob f)) s := by
 cases q with | mk ws i e a l p => exact mth_of e (h ws i)
theorem refuse_x {msg : MV} (xl : m < s.next) (q : Stm t (k :: r) (s.objs m)) : cl (n + 2) 750 [.ref m, msg] s = .exc := by
 have w0 := Fw.start xl q
 refine (here_c (n := n) xl q).elim fun w s1 e1 m1 h1 => ?_
 exact Ends.exc (Tr.v (st_mth (nm := (so "here")) (f := 729) w0.q (fun _ _ => by kernel_rfl)) <| Tr.v (e1) <| Tr.exc) (by kernel_rfl)
theorem nk_t (hb : isK y k = true) (hl : noN [y] = true) (xl : m < s.next) (q : Stm t (k :: r) (s.objs m)) : Gv (cl (n + 3) 806 [.ref m, dS y] s) (.d .none) m (Stm t r) s := by
 have w0 := Fw.start xl q
 refine (tk_t (n := n) hb hl xl q).elim fun s1 e1 m1 => ?_
 have w1 := w0.mv m1
 exact w1.gv (.tr (Tr.v (st_mth (nm := (so "take_key")) (f := 792) w0.q (fun _ _ => by kernel_rfl)) <| Tr.v (e1) <| Tr.ret _) (by kernel_rfl))
theorem nk_x (hb : isK y k = false) (hl : noN [y] = true) (hy : (y ++ cp " is missing").length ≤ cap) (xl : m < s.next) (q : Stm t (k :: r) (s.objs m)) : cl (n + 4) 806 [.ref m, dS y] s = .exc := by
 have w0 := Fw.start xl q
 refine (tk_f (n := n + 1) hb hl xl q).elim fun s1 e1 m1 => ?_
 have w1 := w0.mv m1
 have e2 := refuse_x (n := n + 1) (msg := dS (y ++ cp " is missing")) w1.x_lt w1.q
 exact Ends.exc (Tr.v (st_mth (nm := (so "take_key")) (f := 792) w0.q (fun _ _ => by kernel_rfl)) <| Tr.v (e1) <| Tr.v (st_mth (nm := (so "refuse")) (f := 750) w1.q (fun _ _ => by kernel_rfl)) <| Tr.v (adds (x := (y)) (y := (cp " is missing")) hy) <| Tr.exv (e2)) (by kernel_rfl)
theorem ng_t (hb : isG c k = true) (xl : m < s.next) (q : Stm t (k :: r) (s.objs m)) : Gv (cl (n + 3) 813 [.ref m, dS [c]] s) (.d .none) m (Stm t r) s := by
 have w0 := Fw.start xl q
 refine (tg_t (n := n) hb xl q).elim fun s1 e1 m1 => ?_
 have w1 := w0.mv m1
 exact w1.gv (.tr (Tr.v (st_mth (nm := (so "take_sign")) (f := 799) w0.q (fun _ _ => by kernel_rfl)) <| Tr.v (e1) <| Tr.ret _) (by kernel_rfl))
theorem nn_t {v : List Nat} (xl : m < s.next) (q : Stm t (.free v :: r) (s.objs m)) : Gv (cl (n + 2) 820 [.ref m] s) (dS v) m (Stm t r) s := by
 refine q.hd fun ws i w e h => ?_
 have w0 := Fw.start (Q := Is (stm t ws i)) xl e
 have hi := h.z
 have hg := h.g
 refine (w_free (n := n) w0 h.h).elim fun s1 e1 h1 => ?_
 have w1 := w0.nt h1
 refine (go_c (n := n) w1.x_lt (w1.imp fun e => h.stay e).q (.inl rfl)).elim fun w' s2 e2 m2 h2 => ?_
 have w2 := w1.mv m2
 obtain ⟨kd, tx, vl, pl⟩ := w'
 cases h2.2.2
 exact w2.gv (.tr (Tr.v (fld_of (a := (so "words")) (v := (.d (.lst (List.map wdD ws)))) w0.q (by kernel_rfl)) <| Tr.v (fld_of (a := (so "at")) (v := (.d (.int (((i) : Nat) : Int)))) w0.q (by kernel_rfl)) <| Tr.v (gi_lst (k := (((i) : Nat) : Int)) hi hg) <| Tr.v (e1) <| Tr.v (mth_of (a := (so "go")) (f := 743) w1.q (by kernel_rfl)) <| Tr.v (e2) <| Tr.ret _) (by kernel_rfl))
theorem nn_x (hf : isF k = false) (xl : m < s.next) (q : Stm t (k :: r) (s.objs m)) : cl (n + 3) 820 [.ref m] s = .exc := by
 refine q.hd fun ws i w e h => ?_
 have w0 := Fw.start (Q := Is (stm t ws i)) xl e
 have hi := h.z
 have hg := h.g
 refine (w_free (n := n + 1) w0 h.h).elim fun s1 e1 h1 => ?_
 rw [hf] at e1
 have w1 := w0.nt h1
 have e2 := refuse_x (n := n) (msg := dS (cp "a name is missing")) w1.x_lt (w1.imp fun e => h.stay e).q
 exact Ends.exc (Tr.v (fld_of (a := (so "words")) (v := (.d (.lst (List.map wdD ws)))) w0.q (by kernel_rfl)) <| Tr.v (fld_of (a := (so "at")) (v := (.d (.int (((i) : Nat) : Int)))) w0.q (by kernel_rfl)) <| Tr.v (gi_lst (k := (((i) : Nat) : Int)) hi hg) <| Tr.v (e1) <| Tr.v (mth_of (a := (so "refuse")) (f := 750) w1.q (by kernel_rfl)) <| Tr.exv (e2)) (by kernel_rfl)
end
end
section
open PySem
set_option genInjectivity false
set_option genSizeOf false
noncomputable section
noncomputable def ixD (x : Ix) : D := .inst 142 [(so "name", nmD x.nm), (so "collation", optD (x.co.map (·.1))), (so "descending", .bool x.de)]
def clD (c : Cl) : D := .inst 116 [(so "name", nmD c.nm), (so "type_name", optD c.ty.1), (so "constraints", .lst (c.cs.map ccRow))]
def tcD (c : Tc) : D := .inst 168 [(so "kind", .str (tcKind c.pk)), (so "columns", .lst (c.cols.map ixD)), (so "check", .none)]
def nodeD (x : List Nat) : Sm → D
 | .table mi nm cls tcs => .inst 194 [(so "name", nmD nm), (so "columns", .lst (cls.map clD)), (so "constraints", .lst (tcs.map tcD)), (so "if_missing", .bool mi), (so "text", .str x)]
 | .index nm tb xs un mi => .inst 220 [(so "name", nmD nm), (so "table", nmD tb), (so "columns", .lst (xs.map ixD)), (so "unique", .bool un), (so "if_missing", .bool mi), (so "text", .str x)]
 | .drop ix nm ex => .inst 246 [(so "kind", .str (drKind ix)), (so "name", nmD nm), (so "if_exists", .bool ex)]
end
section
variable {n m q : Nat} {s u : MSt} {l l2 : List D} {G : Prop}
theorem init_116 {a0 a1 a2 : MV} (hm : m < s.next) (h : s.objs m = .inst 116 []) : Go (cl (n + 1) 106 [.ref m, a0, a1, a2] s) m (Is (.inst 116 [(so "name", a0), (so "type_name", a1), (so "constraints", a2)])) s := by
 have w0 := Fw.start (Q := Is (.inst 116 [])) hm h
 have w1 := w0.px (Q' := Is (.inst 116 [(so "name", a0)])) rfl
 have w2 := w1.px (Q' := Is (.inst 116 [(so "name", a0), (so "type_name", a1)])) rfl
 have w3 := w2.px (Q' := Is (.inst 116 [(so "name", a0), (so "type_name", a1), (so "constraints", a2)])) rfl
 exact w3.goK (.tr (Tr.v (sa_of (a := (so "name")) (v := (a0)) (o := (MObj.inst 116 [(so "name", a0)])) w0.q (by kernel_rfl) rfl (by kernel_rfl)) <| Tr.v (sa_of (a := (so "type_name")) (v := (a1)) (o := (MObj.inst 116 [(so "name", a0), (so "type_name", a1)])) w1.q (by kernel_rfl) rfl (by kernel_rfl)) <| Tr.v (sa_of (a := (so "constraints")) (v := (a2)) (o := (MObj.inst 116 [(so "name", a0), (so "type_name", a1), (so "constraints", a2)])) w2.q (by kernel_rfl) rfl (by kernel_rfl)) <| Tr.ret _) (by kernel_rfl))
theorem init_142 {a0 a1 a2 : MV} (hm : m < s.next) (h : s.objs m = .inst 142 []) : Go (cl (n + 1) 132 [.ref m, a0, a1, a2] s) m (Is (.inst 142 [(so "name", a0), (so "collation", a1), (so "descending", a2)])) s := by
 have w0 := Fw.start (Q := Is (.inst 142 [])) hm h
 have w1 := w0.px (Q' := Is (.inst 142 [(so "name", a0)])) rfl
 have w2 := w1.px (Q' := Is (.inst 142 [(so "name", a0), (so "collation", a1)])) rfl
 have w3 := w2.px (Q' := Is (.inst 142 [(so "name", a0), (so "collation", a1), (so "descending", a2)])) rfl
 exact w3.goK (.tr (Tr.v (sa_of (a := (so "name")) (v := (a0)) (o := (MObj.inst 142 [(so "name", a0)])) w0.q (by kernel_rfl) rfl (by kernel_rfl)) <| Tr.v (sa_of (a := (so "collation")) (v := (a1)) (o := (MObj.inst 142 [(so "name", a0), (so "collation", a1)])) w1.q (by kernel_rfl) rfl (by kernel_rfl)) <| Tr.v (sa_of (a := (so "descending")) (v := (a2)) (o := (MObj.inst 142 [(so "name", a0), (so "collation", a1), (so "descending", a2)])) w2.q (by kernel_rfl) rfl (by kernel_rfl)) <| Tr.ret _) (by kernel_rfl))
theorem init_168 {a0 a1 a2 : MV} (hm : m < s.next) (h : s.objs m = .inst 168 []) : Go (cl (n + 1) 158 [.ref m, a0, a1, a2] s) m (Is (.inst 168 [(so "kind", a0), (so "columns", a1), (so "check", a2)])) s := by
 have w0 := Fw.start (Q := Is (.inst 168 [])) hm h
 have w1 := w0.px (Q' := Is (.inst 168 [(so "kind", a0)])) rfl
 have w2 := w1.px (Q' := Is (.inst 168 [(so "kind", a0), (so "columns", a1)])) rfl
 have w3 := w2.px (Q' := Is (.inst 168 [(so "kind", a0), (so "columns", a1), (so "check", a2)])) rfl
 exact w3.goK (.tr (Tr.v (sa_of (a := (so "kind")) (v := (a0)) (o := (MObj.inst 168 [(so "kind", a0)])) w0.q (by kernel_rfl) rfl (by kernel_rfl)) <| Tr.v (sa_of (a := (so "columns")) (v := (a1)) (o := (MObj.inst 168 [(so "kind", a0), (so "columns", a1)])) w1.q (by kernel_rfl) rfl (by kernel_rfl)) <| Tr.v (sa_of (a := (so "check")) (v := (a2)) (o := (MObj.inst 168 [(so "kind", a0), (so "columns", a1), (so "check", a2)])) w2.q (by kernel_rfl) rfl (by kernel_rfl)) <| Tr.ret _) (by kernel_rfl))
theorem init_194 {a0 a1 a2 a3 a4 : MV} (hm : m < s.next) (h : s.objs m = .inst 194 []) : Go (cl (n + 1) 184 [.ref m, a0, a1, a2, a3, a4] s) m (Is (.inst 194 [(so "name", a0), (so "columns", a1), (so "constraints", a2), (so "if_missing", a3), (so "text", a4)])) s := by
 have w0 := Fw.start (Q := Is (.inst 194 [])) hm h
 have w1 := w0.px (Q' := Is (.inst 194 [(so "name", a0)])) rfl
 have w2 := w1.px (Q' := Is (.inst 194 [(so "name", a0), (so "columns", a1)])) rfl
 have w3 := w2.px (Q' := Is (.inst 194 [(so "name", a0), (so "columns", a1), (so "constraints", a2)])) rfl
 have w4 := w3.px (Q' := Is (.inst 194 [(so "name", a0), (so "columns", a1), (so "constraints", a2), (so "if_missing", a3)])) rfl
 have w5 := w4.px (Q' := Is (.inst 194 [(so "name", a0), (so "columns", a1), (so "constraints", a2), (so "if_missing", a3), (so "text", a4)])) rfl
 exact w5.goK (.tr (Tr.v (sa_of (a := (so "name")) (v := (a0)) (o := (MObj.inst 194 [(so "name", a0)])) w0.q (by kernel_rfl) rfl (by kernel_rfl)) <| Tr.v (sa_of (a := (so "columns")) (v := (a1)) (o := (MObj.inst 194 [(so "name", a0), (so "columns", a1)])) w1.q (by kernel_rfl) rfl (by kernel_rfl)) <| Tr.v (sa_of (a := (so "constraints")) (v := (a2)) (o := (MObj.inst 194 [(so "name", a0), (so "columns", a1), (so "constraints", a2)])) w2.q (by kernel_rfl) rfl (by kernel_rfl)) <| Tr.v (sa_of (a := (so "if_missing")) (v := (a3)) (o := (MObj.inst 194 [(so "name", a0), (so "columns", a1), (so "constraints", a2), (so "if_missing", a3)])) w3.q (by kernel_rfl) rfl (by kernel_rfl)) <| Tr.v (sa_of (a := (so "text")) (v := (a4)) (o := (MObj.inst 194 [(so "name", a0), (so "columns", a1), (so "constraints", a2), (so "if_missing", a3), (so "text", a4)])) w4.q (by kernel_rfl) rfl (by kernel_rfl)) <| Tr.ret _) (by kernel_rfl))
theorem init_220 {a0 a1 a2 a3 a4 a5 : MV} (hm : m < s.next) (h : s.objs m = .inst 220 []) : Go (cl (n + 1) 210 [.ref m, a0, a1, a2, a3, a4, a5] s) m (Is (.inst 220 [(so "name", a0), (so "table", a1), (so "columns", a2), (so "unique", a3), (so "if_missing", a4), (so "text", a5)])) s := by
 have w0 := Fw.start (Q := Is (.inst 220 [])) hm h
 have w1 := w0.px (Q' := Is (.inst 220 [(so "name", a0)])) rfl
 have w2 := w1.px (Q' := Is (.inst 220 [(so "name", a0), (so "table", a1)])) rfl
 have w3 := w2.px (Q' := Is (.inst 220 [(so "name", a0), (so "table", a1), (so "columns", a2)])) rfl
 have w4 := w3.px (Q' := Is (.inst 220 [(so "name", a0), (so "table", a1), (so "columns", a2), (so "unique", a3)])) rfl
 have w5 := w4.px (Q' := Is (.inst 220 [(so "name", a0), (so "table", a1), (so "columns", a2), (so "unique", a3), (so "if_missing", a4)])) rfl
 have w6 := w5.px (Q' := Is (.inst 220 [(so "name", a0), (so "table", a1), (so "columns", a2), (so "unique", a3), (so "if_missing", a4), (so "text", a5)])) rfl
 exact w6.goK (.tr (Tr.v (sa_of (a := (so "name")) (v := (a0)) (o := (MObj.inst 220 [(so "name", a0)])) w0.q (by kernel_rfl) rfl (by kernel_rfl)) <| Tr.v (sa_of (a := (so "table")) (v := (a1)) (o := (MObj.inst 220 [(so "name", a0), (so "table", a1)])) w1.q (by kernel_rfl) rfl (by kernel_rfl)) <| Tr.v (sa_of (a := (so "columns")) (v := (a2)) (o := (MObj.inst 220 [(so "name", a0), (so "table", a1), (so "columns", a2)])) w2.q (by kernel_rfl) rfl (by kernel_rfl)) <| Tr.v (sa_of (a := (so "unique")) (v := (a3)) (o := (MObj.inst 220 [(so "name", a0), (so "table", a1), (so "columns", a2), (so "unique", a3)])) w3.q (by kernel_rfl) rfl (by kernel_rfl)) <| Tr.v (sa_of (a := (so "if_missing")) (v := (a4)) (o := (MObj.inst 220 [(so "name", a0), (so "table", a1), (so "columns", a2), (so "unique", a3), (so "if_missing", a4)])) w4.q (by kernel_rfl) rfl (by kernel_rfl)) <| Tr.v (sa_of (a := (so "text")) (v := (a5)) (o := (MObj.inst 220 [(so "name", a0), (so "table", a1), (so "columns", a2), (so "unique", a3), (so "if_missing", a4), (so "text", a5)])) w5.q (by kernel_rfl) rfl (by kernel_rfl)) <| Tr.ret _) (by kernel_rfl))
theorem init_246 {a0 a1 a2 : MV} (hm : m < s.next) (h : s.objs m = .inst 246 []) : Go (cl (n + 1) 236 [.ref m, a0, a1, a2] s) m (Is (.inst 246 [(so "kind", a0), (so "name", a1), (so "if_exists", a2)])) s := by
 have w0 := Fw.start (Q := Is (.inst 246 [])) hm h
 have w1 := w0.px (Q' := Is (.inst 246 [(so "kind", a0)])) rfl
 have w2 := w1.px (Q' := Is (.inst 246 [(so "kind", a0), (so "name", a1)])) rfl
 have w3 := w2.px (Q' := Is (.inst 246 [(so "kind", a0), (so "name", a1), (so "if_exists", a2)])) rfl
 exact w3.goK (.tr (Tr.v (sa_of (a := (so "kind")) (v := (a0)) (o := (MObj.inst 246 [(so "kind", a0)])) w0.q (by kernel_rfl) rfl (by kernel_rfl)) <| Tr.v (sa_of (a := (so "name")) (v := (a1)) (o := (MObj.inst 246 [(so "kind", a0), (so "name", a1)])) w1.q (by kernel_rfl) rfl (by kernel_rfl)) <| Tr.v (sa_of (a := (so "if_exists")) (v := (a2)) (o := (MObj.inst 246 [(so "kind", a0), (so "name", a1), (so "if_exists", a2)])) w2.q (by kernel_rfl) rfl (by kernel_rfl)) <| Tr.ret _) (by kernel_rfl))
theorem new_g {c ini : Nat} {args : List MV} {fs : List (Str × MV)} {ds : List (Str × D)} {O2 : Nat → MObj} (hf : T0.fn c = none) (hc : ((T0.cls c).map fun ci => (ci.init, ci.froz)) = some (ini, true))
  (hi : Go (cl n ini (.ref s.next :: args) (nw s (.inst c []))) s.next (Is (.inst c fs)) (nw s (.inst c [])))
  (hz : ∀ v : MSt, (∀ k, k < s.next → v.objs k = s.objs k) → ∃ v', frzs 6 fs v = some (ds, v') ∧ v'.next = v.next ∧ ∀ k, k < s.next → v'.objs k = O2 k) : Qt (callGlob (cN KK n) c args s) (.d (.inst c ds)) ⟨s.next, O2⟩ := by
 refine hi.elim fun _ u e m _ => (mes hc).elim fun ci z => ?_
 refine (hz ⟨u.next, upd u.objs s.next .gone⟩ fun k h => (uN (nnl h)).trans ((m.k k (Nat.lt_succ_of_lt h) (nnl h)).trans (uN (nnl h)))).elim fun v' hv => ?_
 refine ⟨⟨v'.next, above s.next v'.objs⟩, ?_, ⟨hv.2.1 ▸ Nat.le_of_succ_le m.n, fun k h => (above_lt h).trans (hv.2.2 k h)⟩⟩
 have e1 : callGlob (cN KK n) c args s = newInst (cN KK n) c ci args s := by unfold callGlob; dsimp only; rw [hf, z.1]
 have z1 := Prod.mk.inj z.2
 rw [e1]
 unfold newInst
 show M.bind (cl n ci.init (.ref s.next :: args)) (initM ci.froz c s.next) (nw s (.inst c [])) = _
 rw [z1.1, z1.2, bind_ok e]
 show frzInst c s.next _ = _
 unfold frzInst
 rw [show u.objs s.next = .inst c fs from m.q]; dsimp only
 rw [if_pos rfl, hv.1]
theorem f_cons {y : Str} {v : MV} {d : D} {r : List (Str × MV)} {ds : List (Str × D)} {s1 s2 s3 : MSt} (h : frz 6 v s1 = some (d, s2)) (h2 : frzs 6 r s2 = some (ds, s3)) : frzs 6 ((y, v) :: r) s1 = some ((y, d) :: ds, s3) := by
 unfold frzs; rw [h]; show (frzs 6 r s2).map _ = _; rw [h2]; rfl
theorem new_142 {x : Ix} : Qt (callGlob (cN KK (n + 1)) 142 [dS x.nm.1, .d (optD (x.co.map (·.1))), .d (.bool x.de)] s) (.d (ixD x)) s := new_f (by kernel_rfl) (by kernel_rfl) (init_142 (nls _) (uS ..)) fun u => by kernel_rfl
theorem new_168 {x : Tc} : Qt (callGlob (cN KK (n + 1)) 168 [dS (tcKind x.pk), .d (.lst (x.cols.map ixD)), .d .none] s) (.d (tcD x)) s := new_f (by kernel_rfl) (by kernel_rfl) (init_168 (nls _) (uS ..)) fun u => by kernel_rfl
theorem new_246 {ix ex : Bool} {nm : Na} {x : List Nat} : Qt (callGlob (cN KK (n + 1)) 246 [dS (drKind ix), dS nm.1, .d (.bool ex)] s) (.d (nodeD x (.drop ix nm ex))) s := new_f (by kernel_rfl) (by kernel_rfl) (init_246 (nls _) (uS ..)) fun u => by kernel_rfl
theorem new_220 {nm tb : Na} {xs : List Ix} {un mi : Bool} {x : List Nat} : Qt (callGlob (cN KK (n + 1)) 220 [dS nm.1, dS tb.1, .d (.lst (xs.map ixD)), .d (.bool un), .d (.bool mi), dS x] s) (.d (nodeD x (.index nm tb xs un mi))) s := new_f (by kernel_rfl) (by kernel_rfl) (init_220 (nls _) (uS ..)) fun u => by kernel_rfl
theorem new_116 {c : Cl} (h : s.objs q = .list ((c.cs.map ccRow).map .d)) (hq : q < s.next) : Qt (callGlob (cN KK (n + 1)) 116 [dS c.nm.1, .d (optD c.ty.1), .ref q] s) (.d (clD c)) (pt s q .gone) :=
 new_g (by kernel_rfl) (by kernel_rfl) (init_116 (nls _) (uS ..)) fun v hv => by
  have e := frz_lst (k := 4) ((hv q hq).trans h)
  refine ⟨pt v q .gone, ?_, rfl, fun k hk => ?_⟩
  ·exact f_cons rfl (f_cons rfl (f_cons e rfl))
  ·show upd v.objs q .gone k = upd s.objs q .gone k
   unfold upd; rw [hv k hk]
theorem new_194 {mi : Bool} {nm : Na} {cls : List Cl} {tcs : List Tc} {x : List Nat} {p : Nat} (h : s.objs q = .list ((cls.map clD).map .d)) (h2 : s.objs p = .list ((tcs.map tcD).map .d)) (hq : q < s.next) (hp : p < s.next) (hqp : p ≠ q) : Qt (callGlob (cN KK (n + 1)) 194 [dS nm.1, .ref q, .ref p, .d (.bool mi), dS x] s) (.d (nodeD x (.table mi nm cls tcs))) (pt (pt s q .gone) p .gone) :=
 new_g (by kernel_rfl) (by kernel_rfl) (init_194 (nls _) (uS ..)) fun v hv => by
  have e := frz_lst (k := 4) ((hv q hq).trans h)
  have e2 := frz_lst (k := 4) (s := pt v q .gone) ((uN hqp).trans ((hv p hp).trans h2))
  refine ⟨pt (pt v q .gone) p .gone, ?_, rfl, fun k hk => ?_⟩
  ·exact f_cons rfl (f_cons e (f_cons e2 (f_cons rfl (f_cons rfl rfl))))
  ·show upd (upd v.objs q .gone) p .gone k = upd (upd s.objs q .gone) p .gone k
   unfold upd; rw [hv k hk]
end
noncomputable def rdr (m : Nat) : MObj := .inst 372 [(so "stream", .ref m), (so "expressions", .d .none)]
structure Rd (a m : Nat) (s : MSt) : Prop where
 h : s.objs a = rdr m
 al : a < s.next
 an : a ≠ m
 xl : m < s.next
noncomputable def hdB (p : Tk → Bool) : List Tk → Bool
 | [] => true
 | k :: _ => p k
section
variable {n m a c : Nat} {s u : MSt} {t : List Nat} {f : Tk} {rest toks ts : List Tk} {y : List Nat} {d : Bool} {x : Ix}
theorem Fw.go {r : O MV} {v : MV} {x : Nat} {Q Q' : MObj → Prop} {s0 s : MSt} {fs : List (Nat × MObj)} {G : Prop} (w : Fw x Q s0 fs s) (c : Gv r v x Q' s) (k : ∀ s', r = .ok v s' → Fw x Q' s0 fs s' → G) : G := c.elim fun s' e m => k s' e (w.mv m)
noncomputable def Tr.sm {R : Type} {f : Nat} {toks : List Tk} {s0 s s1 : MSt} {fs : List (Nat × MObj)} {nm : Str} {o : O R} {v : MV} {q : M MV} (w : Fw m (Stm t toks) s0 fs s) (r : Rd a m s0) (h : ∀ (ws : List Wd) (i : Nat), mthO 837 [(so "text", dS t), (so "words", .d (.lst (ws.map wdD))), (so "at", .d (.int (i : Nat))), (so "depth", .d (.int 0))] m nm = some (.fn f (.ref m))) (e : q s = .ok v s1) (z : Tr R s1 o) : Tr R s o :=
 Tr.v (fld_of (a := (so "stream")) (v := .ref m) (w.ext r.h r.al r.an) (by kernel_rfl)) <| Tr.v (st_mth w.q h) <| Tr.v e z
theorem Rd.mv {Q : MObj → Prop} (r : Rd a m s) (c : Mv m Q s u) : Rd a m u := ⟨(c.k a r.al r.an).trans r.h, lll r.al c.n, r.an, lll r.xl c.n⟩
theorem tk_n (hb : hdB (isK y) toks = false) (hl : noN [y] = true) (xl : m < s.next) (q : Stm t toks (s.objs m)) : Gv (cl (n + 2) 792 [.ref m, dS y] s) (.d (.bool false)) m (Stm t toks) s := by
 cases toks with
 | nil => cases hb
 | cons k r => exact tk_f hb hl xl q
theorem de_hd (h : DeT d ts) (hf : isK y f = false) (hy : (isK y (tk "DESC") || isK y (tk "ASC")) = false) : hdB (isK y) (ts ++ f :: rest) = false := by
 have z := Bool.or_eq_false_iff.mp hy
 cases h with
 | d => exact z.1
 | a => exact z.2
 | n => exact hf
theorem de_c (h : DeT d ts) (h1 : isK (cp "DESC") f = false) (h2 : isK (cp "ASC") f = false) (r : Rd a m s) (q : Stm t (ts ++ f :: rest) (s.objs m)) : Gv (cl (n + 3) 334 [.ref a] s) (.d (.bool d)) m (Stm t (f :: rest)) s := by
 have r0 := r
 have ha := r.h
 have al := r.al
 have an := r.an
 have w0 := Fw.start r.xl q
 cases h with
 | d =>
  refine w0.go (tk_t (n := n) (y := cp "DESC") (k := tk "DESC") (by kernel_rfl) (by kernel_rfl) w0.x_lt w0.q) fun s1 e1 w1 => ?_
  exact w1.gv (.tr (Tr.sm (nm := (so "take_key")) (f := 792) w0 r0 (fun _ _ => by kernel_rfl) e1 <| Tr.ret _) (by kernel_rfl))
 | a =>
  refine w0.go (tk_f (n := n) (y := cp "DESC") (k := tk "ASC") (by kernel_rfl) (by kernel_rfl) w0.x_lt w0.q) fun s1 e1 w1 => ?_
  refine w1.go (tk_t (n := n) (y := cp "ASC") (k := tk "ASC") (by kernel_rfl) (by kernel_rfl) w1.x_lt w1.q) fun s2 e2 w2 => ?_
  exact w2.gv (.tr (Tr.sm (nm := (so "take_key")) (f := 792) w0 r0 (fun _ _ => by kernel_rfl) e1 <| Tr.sm (nm := (so "take_key")) (f := 792) w1 r0 (fun _ _ => by kernel_rfl) e2 <| Tr.ret _) (by kernel_rfl))
 | n =>
  refine w0.go (tk_f (n := n) (y := cp "DESC") (k := f) (r := rest) h1 (by kernel_rfl) w0.x_lt w0.q) fun s1 e1 w1 => ?_
  refine w1.go (tk_f (n := n) (y := cp "ASC") h2 (by kernel_rfl) w1.x_lt w1.q) fun s2 e2 w2 => ?_
  exact w2.gv (.tr (Tr.sm (nm := (so "take_key")) (f := 792) w0 r0 (fun _ _ => by kernel_rfl) e1 <| Tr.sm (nm := (so "take_key")) (f := 792) w1 r0 (fun _ _ => by kernel_rfl) e2 <| Tr.ret _) (by kernel_rfl))
theorem ix_c (h : IxT x ts) (r : Rd a m s) (q : Stm t (ts ++ .sg c :: rest) (s.objs m)) : Gv (cl (n + 5) 327 [.ref a] s) (.d (ixD x)) m (Stm t (.sg c :: rest)) s := by
 have r0 := r
 have ha := r.h
 have al := r.al
 have an := r.an
 have w0 := Fw.start r.xl q
 cases h with | mk hd =>
 cases x with | mk nm co de =>
 cases co with
 | none =>
  refine (nn_t (n := n + 2) w0.x_lt w0.q).elim fun s1 e1 m1 => ?_
  have w1 := w0.mv m1
  refine (tk_n (n := n + 2) (y := cp "COLLATE") (de_hd hd rfl (by kernel_rfl)) (by kernel_rfl) w1.x_lt w1.q).elim fun s2 e2 m2 => ?_
  have w2 := w1.mv m2
  refine w2.go (de_c (n := n + 1) hd rfl rfl ((r.mv m1).mv m2) w2.q) fun s3 e3 w3 => ?_
  refine (new_142 (n := n + 3) (x := ⟨nm, none, de⟩) (s := s3)).elim fun s4 e4 h4 => ?_
  have w4 := w3.nt h4
  exact w4.gv (.tr (Tr.sm (nm := (so "need_name")) (f := 820) w0 r0 (fun _ _ => by kernel_rfl) e1 <| Tr.sm (nm := (so "take_key")) (f := 792) w1 r0 (fun _ _ => by kernel_rfl) e2 <| Tr.v (mth_of (a := (so "is_descending")) (f := 334) (w2.ext ha al an) (by kernel_rfl)) <| Tr.v (e3) <| Tr.v (e4) <| Tr.ret _) (by kernel_rfl))
 | some co =>
  refine (nn_t (n := n + 2) w0.x_lt w0.q).elim fun s1 e1 m1 => ?_
  have w1 := w0.mv m1
  refine (tk_t (n := n + 2) (y := cp "COLLATE") (k := tk "COLLATE") (by kernel_rfl) (by kernel_rfl) w1.x_lt w1.q).elim fun s2 e2 m2 => ?_
  have w2 := w1.mv m2
  refine (nn_t (n := n + 2) w2.x_lt w2.q).elim fun s5 e5 m5 => ?_
  have w5 := w2.mv m5
  refine w5.go (de_c (n := n + 1) hd rfl rfl (((r.mv m1).mv m2).mv m5) w5.q) fun s3 e3 w3 => ?_
  refine (new_142 (n := n + 3) (x := ⟨nm, some co, de⟩) (s := s3)).elim fun s4 e4 h4 => ?_
  have w4 := w3.nt h4
  exact w4.gv (.tr (Tr.sm (nm := (so "need_name")) (f := 820) w0 r0 (fun _ _ => by kernel_rfl) e1 <| Tr.sm (nm := (so "take_key")) (f := 792) w1 r0 (fun _ _ => by kernel_rfl) e2 <| Tr.sm (nm := (so "need_name")) (f := 820) w2 r0 (fun _ _ => by kernel_rfl) e5 <| Tr.v (mth_of (a := (so "is_descending")) (f := 334) (w5.ext ha al an) (by kernel_rfl)) <| Tr.v (e3) <| Tr.v (e4) <| Tr.ret _) (by kernel_rfl))
end
section
variable {n m a c : Nat} {s u : MSt} {t : List Nat} {f : Tk} {rest toks ts : List Tk} {y : List Nat} {d : Bool} {xs : List Ix}
theorem fl_sg {α : Type} {R : α → List Tk → Prop} {xs : List α} (h : FlT R xs ts) : ∃ c r, ts ++ .sg 41 :: rest = .sg c :: r := by
 cases h with
 | nil => exact ⟨_, _, rfl⟩
 | cons => exact ⟨_, _, rfl⟩
structure Gl {α : Type} (R : α → List Tk → Prop) (g : α → D) (a m : Nat) (t : List Nat) (rest : List Tk) (xs : List α) (q : Nat) (s : MSt) (z : List α × List α × List Tk) (u : MSt) : Prop where
 w : Fw m (Stm t (z.2.2 ++ .sg 41 :: rest)) s [(q, .list ((z.1.map g).map .d))] u
 r : Rd a m u
 f : FlT R z.2.1 z.2.2
 e : z.1 ++ z.2.1 = xs
theorem dn_lt {α : Type} {g : α → D} {x : α} {dn xr xs : List α} (e : dn ++ x :: xr = xs) (h : xs.length ≤ 2) : ((dn.map g).map MV.d).length < cap := by
 rw [llm, llm]
 refine lll (lll ?_ h) (by decide : 2 ≤ cap)
 rw [← e, lla]; exact Nat.lt_add_of_pos_right (Nat.succ_pos _)
theorem ixs_c (h : CsT xs ts) (r : Rd a m s) (q : Stm t (ts ++ rest) (s.objs m)) : Gv (cl (n + 6) 320 [.ref a] s) (.d (.lst (xs.map ixD))) m (Stm t rest) s := by
 have r0 := r
 have ha := r.h
 have al := r.al
 have an := r.an
 cases h with | @mk t0 hf hl =>
 cases hf with | @cons x xs' t1 ts1 hx hfl =>
 have q0 : Stm t (.sg 40 :: (t1 ++ (ts1 ++ .sg 41 :: rest))) (s.objs m) := by
  have e : .sg 40 :: (t1 ++ ts1 ++ [.sg 41]) ++ rest = .sg 40 :: (t1 ++ (ts1 ++ .sg 41 :: rest)) := by rw [List.cons_append, lap, lap]; rfl
  exact e ▸ q
 have w0 := Fw.start r.xl q0
 refine (ng_t (n := n + 2) (c := 40) rfl w0.x_lt w0.q).elim fun s1 e1 m1 => ?_
 have w1 := w0.mv m1
 have r1 := r.mv m1
 have ix : ∀ {x : Ix} {t1 ts1 : List Tk} {xr : List Ix} {s1 : MSt}, IxT x t1 → FlT IxT xr ts1 → Rd a m s1 → Stm t (t1 ++ (ts1 ++ .sg 41 :: rest)) (s1.objs m) → Gv (cl (n + 5) 327 [.ref a] s1) (.d (ixD x)) m (Stm t (ts1 ++ .sg 41 :: rest)) s1 := by
  intro x t1 ts1 xr s1 hx hfl r1 q1
  refine (fl_sg (rest := rest) hfl).elim fun c z => z.elim fun r' z => ?_
  rw [z] at q1 ⊢
  exact ix_c hx r1 q1
 refine w1.go (ix hx hfl r1 w1.q) fun s2 e2 w2 => ?_
 have w3 := w2.nw (.list (([x].map ixD).map .d))
 have r3 : Rd a m (nw s2 (.list (([x].map ixD).map .d))) := ⟨w3.ext ha al an, lll al w3.n, an, w3.x_lt⟩
 refine (wx_run (n := n + 5) (sc := fS 320) (st := stAt 320 2) (u := nw s2 (.list (([x].map ixD).map .d))) (E := [(so "found", .ref s2.next), (so "self", .ref a)]) (pre := fun _ => [(so "self", .ref a), (so "found", .ref s2.next)]) (I := Gl IxT ixD a m t rest (x :: xs') s2.next s) (J := fun z u => Gl IxT ixD a m t rest (x :: xs') s2.next s z u ∧ z.2.1 = []) (μ := fun z => z.2.1.length) (a := ([x], xs', ts1)) (by kernel_rfl) ?_ ?_ rfl ⟨w3, r3, hfl, rfl⟩).elim fun z E u1 e3 j => ?_
 ·intro z E u I
  obtain ⟨dn, xr, tr⟩ := z
  have w := I.w
  have r := I.r
  have hf := I.f
  cases hf with
  | nil =>
   refine (tg_f (n := n + 3) (c := 44) (k := .sg 41) rfl w.x_lt w.q).elim fun s4 e4 m4 => ?_
   have w4 := w.mv m4
   exact .stop s4 (ts_run (Tr.sm (nm := (so "take_sign")) (f := 799) w r0 (fun _ _ => by kernel_rfl) e4 <| Tr.ret _) (by kernel_rfl)) ⟨⟨w4, r.mv m4, .nil, I.e⟩, rfl⟩
  | @cons x1 xr1 t2 tr1 hx1 hfl1 =>
   have q1 : Stm t (.sg 44 :: (t2 ++ (tr1 ++ .sg 41 :: rest))) (u.objs m) := by
    have z := w.q
    rwa [show (dn, x1 :: xr1, Tk.sg 44 :: (t2 ++ tr1)).2.2 ++ .sg 41 :: rest = .sg 44 :: (t2 ++ (tr1 ++ .sg 41 :: rest)) from congrArg (Tk.sg 44 :: ·) (lap ..)] at z
   refine (tg_t (n := n + 3) (c := 44) (k := .sg 44) rfl w.x_lt q1).elim fun s4 e4 m4 => ?_
   have w4 := w.mv m4
   have r4 := r.mv m4
   refine (ix hx1 hfl1 r4 w4.q).elim fun s5 e5 m5 => ?_
   have w5 := w4.mv m5
   have r5 := r4.mv m5
   have hn := dn_lt (g := ixD) I.e hl
   have sn := map_snoc ixD dn x1
   have w6 := w5.put 0 rfl (.list (((dn ++ [x1]).map ixD).map .d))
   exact .go s4 (ts_run (Tr.sm (nm := (so "take_sign")) (f := 799) w r0 (fun _ _ => by kernel_rfl) e4 <| Tr.ret _) (by kernel_rfl))
    ⟨(dn ++ [x1], xr1, tr1), [(so "self", .ref a), (so "found", .ref s2.next)] ++ E, _, xs_on (Tr.v (app_m (w4.g 0 rfl)) <| Tr.v (mth_of (a := (so "indexed_column")) (f := 327) (w4.ext ha al an) (by kernel_rfl)) <| Tr.v (e5) <| Tr.v (app_e (v := (.d (ixD x1))) (w5.g 0 rfl) hn sn) <| Tr.ret _) (by kernel_rfl), (by exact rfl), ⟨w6, ⟨w6.ext ha al an, lll al w6.n, an, w6.x_lt⟩, hfl1, by rw [lap]; exact I.e⟩, nls _⟩
 ·exact lll (Nat.lt_of_succ_le hl) (by decide)
 ·obtain ⟨dn, xr, tr⟩ := z
  have e0 : xr = [] := j.2
  subst e0
  have w := j.1.w
  have f := j.1.f
  cases f
  have e2' : dn = x :: xs' := (lan dn).symm.trans j.1.e
  subst e2'
  refine (ng_t (n := n + 2) (c := 41) (k := .sg 41) (r := rest) rfl w.x_lt w.q).elim fun s6 e6 m6 => ?_
  have w6 := w.mv m6
  have e : Ends 320 (n + 5) [.ref a] s (.ref s2.next) s6 := .tr (Tr.sm (nm := (so "need_sign")) (f := 813) w0 r0 (fun _ _ => by kernel_rfl) e1 <| Tr.v (mth_of (a := (so "indexed_column")) (f := 327) (w1.ext ha al an) (by kernel_rfl)) <| Tr.v (e2) <| Tr.v (mkl (l := (List.map MV.d (List.map ixD [x]))) (lbe rfl)) <| Tr.x (e3) <| Tr.sm (nm := (so "need_sign")) (f := 813) w r0 (fun _ _ => by kernel_rfl) e6 <| Tr.ret _) (by kernel_rfl)
  exact ⟨_, Eq.trans e (hb_of (frz_lst (k := 4) (w6.g 0 rfl))), w6.out fun k h => uN (nnl (lll h (w6.own 0 rfl)))⟩
end
section
variable {n m a c : Nat} {s u : MSt} {t : List Nat} {f : Tk} {rest toks ts : List Tk}
theorem k18 : ((1000 : Nat) : Int) < 10 ^ 18 := by decide
theorem k18' {k : Nat} (h : k < 1000) : (k : Int) < 10 ^ 18 := Int.lt_trans (Int.ofNat_lt.mpr h) k18
theorem ty_str0 {k : Nat} (h : (k : Int) < 10 ^ 18) : tyStr (.d (.int k)) s = .ok (dS (strOfNat k)) s := by
 unfold tyStr MV.int?
 dsimp only
 rw [if_pos ⟨Int.natCast_nonneg k, h⟩]
 rfl
theorem ty_str1 {v : MV} : callTyp "str" [v] s = tyStr v s := by
 unfold callTyp
 rw [if_neg (by decide), if_pos rfl]
 rfl
theorem ty_str {k : Nat} (h : k < 1000) : callTyp "str" [.d (.int k)] s = .ok (dS (strOfNat k)) s := ty_str1.trans (ty_str0 (k18' h))
theorem eq_nil {v : MV} {l : List MV} {b : Bool} {q : Nat} (ha : lOf v s = some l) (hb : s.objs q = .list []) (e : l.isEmpty = b) : mB (cmpM .Eq v (.ref q)) s = .ok (.d (.bool b)) s := cm (by
 show (if nil? (s.objs q) then (lOf v s).map (·.isEmpty) else none) = some b
 rw [hb, ha, ← e]; rfl)
theorem size_c {pre : List Tk} {ah : List Nat} {k : Nat} (h : (pre = [] ∧ ah = []) ∨ (pre = [.sg 43] ∧ ah = []) ∨ (pre = [.sg 45] ∧ ah = [45])) (hk : k < 1000) (hl : (ah ++ strOfNat k).length ≤ cap) (xl : m < s.next) (q : Stm t (pre ++ .nu k :: rest) (s.objs m)) : Gv (cl (n + 3) 262 [.ref m] s) (dS (ah ++ strOfNat k)) m (Stm t rest) s := by
 have w0 := Fw.start xl q
 have tl : ∀ {s2 : MSt}, Fw m (Stm t (.nu k :: rest)) s [] s2 → ∀ {G : Prop}, (∀ tx pl pl2 s4 s5 tx2, cl (n + 2) 729 [.ref m] s2 = .ok (.d (wdD ⟨cp "number", tx, .int k, pl⟩)) s4 → Fw m (Stm t (.nu k :: rest)) s [] s4 → cl (n + 2) 743 [.ref m] s4 = .ok (.d (wdD ⟨cp "number", tx2, .int k, pl2⟩)) s5 → Fw m (Stm t rest) s [] s5 → G) → G := by
  intro s2 w2 G g
  refine (here_c (n := n + 1) w2.x_lt w2.q).elim fun w s4 e4 m4 h4 => ?_
  have w4 := w2.mv m4
  refine (go_c (n := n + 1) w4.x_lt w4.q (.inr ⟨k, rfl⟩)).elim fun w' s5 e5 m5 h5 => ?_
  obtain ⟨kd, tx, vl, pl⟩ := w
  obtain ⟨kd2, tx2, vl2, pl2⟩ := w'
  cases h4.1.1
  cases h4.1.2
  cases h5.1
  cases h5.2
  exact g tx pl pl2 s4 s5 tx2 e4 w4 e5 (w4.mv m5)
 rcases h with ⟨rfl, rfl⟩ | ⟨rfl, rfl⟩ | ⟨rfl, rfl⟩
 ·refine (tg_f (n := n) (c := 45) (k := .nu k) rfl w0.x_lt w0.q).elim fun s1 e1 m1 => ?_
  have w1 := w0.mv m1
  refine (tg_f (n := n) (c := 43) (k := .nu k) rfl w1.x_lt w1.q).elim fun s2 e2 m2 => ?_
  have w2 := w1.mv m2
  refine tl w2 fun tx pl pl2 s4 s5 tx2 e4 w4 e5 w5 => ?_
  exact w5.gv (.tr (Tr.v (st_mth (nm := (so "take_sign")) (f := 799) w0.q (fun _ _ => by kernel_rfl)) <| Tr.v (e1) <| Tr.v (st_mth (nm := (so "take_sign")) (f := 799) w1.q (fun _ _ => by kernel_rfl)) <| Tr.v (e2) <| Tr.v (st_mth (nm := (so "here")) (f := 729) w2.q (fun _ _ => by kernel_rfl)) <| Tr.v (e4) <| Tr.v (nes_f (x := (cp "number")) (y := (cp "number")) rfl) <| Tr.v (st_mth (nm := (so "go")) (f := 743) w4.q (fun _ _ => by kernel_rfl)) <| Tr.v (e5) <| Tr.v (ty_str hk) <| Tr.v (adds (x := []) (y := (strOfNat k)) hl) <| Tr.ret _) (by kernel_rfl))
 ·refine (tg_f (n := n) (c := 45) (k := .sg 43) rfl w0.x_lt w0.q).elim fun s1 e1 m1 => ?_
  have w1 := w0.mv m1
  refine (tg_t (n := n) (c := 43) (k := .sg 43) (r := .nu k :: rest) rfl w1.x_lt w1.q).elim fun s2 e2 m2 => ?_
  have w2 := w1.mv m2
  refine tl w2 fun tx pl pl2 s4 s5 tx2 e4 w4 e5 w5 => ?_
  exact w5.gv (.tr (Tr.v (st_mth (nm := (so "take_sign")) (f := 799) w0.q (fun _ _ => by kernel_rfl)) <| Tr.v (e1) <| Tr.v (st_mth (nm := (so "take_sign")) (f := 799) w1.q (fun _ _ => by kernel_rfl)) <| Tr.v (e2) <| Tr.v (st_mth (nm := (so "here")) (f := 729) w2.q (fun _ _ => by kernel_rfl)) <| Tr.v (e4) <| Tr.v (nes_f (x := (cp "number")) (y := (cp "number")) rfl) <| Tr.v (st_mth (nm := (so "go")) (f := 743) w4.q (fun _ _ => by kernel_rfl)) <| Tr.v (e5) <| Tr.v (ty_str hk) <| Tr.v (adds (x := []) (y := (strOfNat k)) hl) <| Tr.ret _) (by kernel_rfl))
 ·refine (tg_t (n := n) (c := 45) (k := .sg 45) (r := .nu k :: rest) rfl w0.x_lt w0.q).elim fun s1 e1 m1 => ?_
  have w1 := w0.mv m1
  refine tl w1 fun tx pl pl2 s4 s5 tx2 e4 w4 e5 w5 => ?_
  exact w5.gv (.tr (Tr.v (st_mth (nm := (so "take_sign")) (f := 799) w0.q (fun _ _ => by kernel_rfl)) <| Tr.v (e1) <| Tr.v (st_mth (nm := (so "here")) (f := 729) w1.q (fun _ _ => by kernel_rfl)) <| Tr.v (e4) <| Tr.v (nes_f (x := (cp "number")) (y := (cp "number")) rfl) <| Tr.v (st_mth (nm := (so "go")) (f := 743) w4.q (fun _ _ => by kernel_rfl)) <| Tr.v (e5) <| Tr.v (ty_str hk) <| Tr.v (adds (x := [45]) (y := (strOfNat k)) hl) <| Tr.ret _) (by kernel_rfl))
structure Tl (m : Nat) (t : List Nat) (F : List Tk) (ps : List (List Nat)) (s : MSt) (z : List (List Nat) × List (List Nat)) (u : MSt) : Prop where
 w : Fw m (Stm t (z.2.map .free ++ F)) s [(s.next, .list (SL z.1))] u
 e : z.1 ++ z.2 = ps
theorem parts_c {F : List Tk} {ps : List (List Nat)} (hF : ∃ k r, F = k :: r ∧ isP k = false) (hl : ps.length ≤ 2) (xl : m < s.next) (q : Stm t (ps.map .free ++ F) (s.objs m)) : Lp (ex (cN KK (n + 3)) (fS 255) (stAt 255 1) (lk [(so "parts", .ref s.next), (so "stream", .ref m)]) (nw s (.list (SL [])))) (fun _ : List (List Nat) × List (List Nat) => [(so "stream", .ref m), (so "parts", .ref s.next)]) (fun z u => Tl m t F ps s z u ∧ z.2 = []) := by
 have w0 := (Fw.start xl q).nw (.list (SL []))
 refine wx_run (n := n + 3) (I := Tl m t F ps s) (μ := fun z => z.2.length) (a := ([], ps)) (by kernel_rfl) ?_ ?_ rfl ⟨w0, rfl⟩
 ·intro z E u I
  obtain ⟨dn, pr⟩ := z
  have w := I.w
  cases pr with
  | nil =>
   refine hF.elim fun k h => h.elim fun r h => ?_
   have q1 : Stm t (k :: r) (u.objs m) := h.1 ▸ w.q
   refine (here_c (n := n + 2) w.x_lt q1).elim fun wd s1 e1 m1 h1 => ?_
   have w1 := w.mv m1
   refine (w_plain (n := n + 1) (w1.sub (List.nil_sublist _)) h1.1).elim fun s2 e2 h2 => ?_
   rw [h.2] at e2
   have w2 := w1.nt h2
   exact .stop s2 (ts_run (Tr.v (st_mth (nm := (so "here")) (f := 729) w.q (fun _ _ => by kernel_rfl)) <| Tr.v (e1) <| Tr.v (e2) <| Tr.ret _) (by kernel_rfl)) ⟨⟨h.1 ▸ w2, I.e⟩, rfl⟩
  | cons v pr =>
   refine (here_c (n := n + 2) (k := .free v) w.x_lt w.q).elim fun wd s1 e1 m1 h1 => ?_
   have w1 := w.mv m1
   refine (w_plain (n := n + 1) (w1.sub (List.nil_sublist _)) h1.1).elim fun s2 e2 h2 => ?_
   have w2 := w1.nt h2
   refine (go_c (n := n + 2) w2.x_lt w2.q (.inl rfl)).elim fun wd2 s3 e3 m3 h3 => ?_
   have w3 := w2.mv m3
   obtain ⟨kd, tx, vl, pl⟩ := wd2
   cases h3.2.2
   have sn : SL dn ++ [dS v] = SL (dn ++ [v]) := (SL_app dn [v])
   have hn : (SL dn).length < cap := by
    rw [SL_len]
    refine lll (lll (m := ps.length) ?_ hl) (by decide)
    rw [← I.e, lla]; exact Nat.lt_add_of_pos_right (Nat.succ_pos _)
   have w4 := w3.put 0 rfl (.list (SL (dn ++ [v])))
   exact .go s2 (ts_run (Tr.v (st_mth (nm := (so "here")) (f := 729) w.q (fun _ _ => by kernel_rfl)) <| Tr.v (e1) <| Tr.v (e2) <| Tr.ret _) (by kernel_rfl))
    ⟨(dn ++ [v], pr), [(so "stream", .ref m), (so "parts", .ref s.next)] ++ E, _, xs_on (Tr.v (app_m (w2.g 0 rfl)) <| Tr.v (st_mth (nm := (so "go")) (f := 743) w2.q (fun _ _ => by kernel_rfl)) <| Tr.v (e3) <| Tr.v (app_e (v := (.d (.str (v)))) (w3.g 0 rfl) hn sn) <| Tr.ret _) (by kernel_rfl), (by exact rfl), ⟨w4, by rw [lap]; exact I.e⟩, nls _⟩
 ·exact nll hl (by decide)
end
end
section
open PySem
section
variable {n m a c : Nat} {s u : MSt} {t : List Nat} {f : Tk} {rest toks ts : List Tk} {ty : Option (List Nat)}
noncomputable def tyB (p : List (List Nat) × Nat) : Bool := Nat.ble p.1.length 2 && Nat.ble (joinL [32] p.1).length 40 && Nat.ble ((p.1.map (·.length)).sum + p.1.length * [32].length) cap && Nat.ble p.2 2
theorem ty_ok : ∀ p ∈ tyP, tyB p = true := by decide +kernel
theorem type_c (h : TyT ty ts) (hf : isP f = false) (hg : isG 40 f = false) (xl : m < s.next) (q : Stm t (ts ++ f :: rest) (s.objs m)) : Gv (cl (n + 4) 255 [.ref m] s) (.d (optD ty)) m (Stm t (f :: rest)) s := by
 cases h with | @mk p hp e =>
 subst e
 have z := ty_ok p hp
 unfold tyB at z
 rw [Bool.and_eq_true, Bool.and_eq_true, Bool.and_eq_true] at z
 have hl := lbe z.1.1.1
 have hj40 := lbe z.1.1.2
 have hs := lbe z.1.2
 obtain ⟨ps, k⟩ := p
 have q1 : Stm t (ps.map .free ++ (szT k ++ f :: rest)) (s.objs m) := by rw [← lap]; exact q
 have hF : ∃ k' r, szT k ++ f :: rest = k' :: r ∧ isP k' = false := by
  match k with
  | 0 => exact ⟨f, rest, rfl, hf⟩
  | 1 => exact ⟨_, _, rfl, rfl⟩
  | _ + 2 => exact ⟨_, _, rfl, rfl⟩
 have v0 := Fw.start xl q1
 have w0 := v0.nw (.list (SL []))
 refine (parts_c (n := n) hF hl xl q1).elim fun z E u e1 j => ?_
 obtain ⟨dn, pr⟩ := z
 have e0 : pr = [] := j.2
 subst e0
 have ee : dn = ps := (lan dn).symm.trans j.1.e
 subst ee
 have w := j.1.w
 have w1 := w.nw (.list (SL []))
 cases dn with
 | nil =>
  have ek : szT k = [] := by
   have y : ∀ p ∈ tyP, (p.1.isEmpty && !Nat.beq p.2 0) = false := by decide +kernel
   have y := y _ hp
   rw [show (([], k) : List (List Nat) × Nat).1.isEmpty = true from rfl, Bool.true_and, Bool.not_eq_false'] at y
   have e0 : k = 0 := Nat.eq_of_beq_eq_true y
   rw [e0]; rfl
  rw [ek] at w1
  exact w1.gv (.tr (Tr.v (mkl (l := (SL [])) (lbe rfl)) <| Tr.x (e1) <| Tr.v (mkl (l := (SL [])) (lbe rfl)) <| Tr.v (eq_nil (b := true) (lof (w1.g 1 rfl)) (w1.g 0 rfl) rfl) <| Tr.ret _) (by kernel_rfl))
 | cons y ys =>
  refine gen (joinL [32] (y :: ys)) fun jj hj => ?_
  rw [hj] at hj40
  have hj41 := to_cap hj40
  have ty0 : tyX (y :: ys, k) = some (jj ++ szX k) := by show some (joinL [32] (y :: ys) ++ szX k) = _; rw [hj]
  rw [ty0]
  have l1 : (jj ++ [40]).length ≤ 41 := len_app (b := 1) hj40 (nlr _)
  have l1' := to_cap l1
  match k with
  | 0 =>
   refine (tg_f (n := n + 1) (c := 40) hg w1.x_lt w1.q).elim fun s2 e2 m2 => ?_
   have w2 := w1.mv m2
   exact (w2.gv (d := .str jj) (.tr (Tr.v (mkl (l := (SL [])) (lbe rfl)) <| Tr.x (e1) <| Tr.v (mkl (l := (SL [])) (lbe rfl)) <| Tr.v (eq_nil (b := false) (lof (w1.g 1 rfl)) (w1.g 0 rfl) rfl) <| Tr.v (sm_join (lof (w1.g 1 rfl)) hs hj hj41) <| Tr.v (st_mth (nm := (so "take_sign")) (f := 799) w1.q (fun _ _ => by kernel_rfl)) <| Tr.v (e2) <| Tr.ret _) (by kernel_rfl))).cast (by show dS jj = dS (jj ++ []); rw [lan])
  | 1 =>
   refine (tg_t (n := n + 1) (c := 40) (k := .sg 40) (r := .nu 10 :: .sg 41 :: f :: rest) rfl w1.x_lt w1.q).elim fun s2 e2 m2 => ?_
   have w2 := w1.mv m2
   refine (size_c (n := n) (pre := []) (ah := []) (k := 10) (rest := .sg 41 :: f :: rest) (.inl ⟨rfl, rfl⟩) (by decide) (lbe (by kernel_rfl)) w2.x_lt w2.q).elim fun s3 e3 m3 => ?_
   have w3 := w2.mv m3
   have l2 : (jj ++ [40] ++ ([] ++ strOfNat 10)).length ≤ 43 := len_app (b := 2) l1 (lbe (by kernel_rfl))
   have l2' := to_cap l2
   refine (tg_f (n := n + 1) (c := 44) rfl w3.x_lt w3.q).elim fun s4 e4 m4 => ?_
   have w4 := w3.mv m4
   refine (ng_t (n := n) (c := 41) rfl w4.x_lt w4.q).elim fun s5 e5 m5 => ?_
   have w5 := w4.mv m5
   have l3 : (jj ++ [40] ++ ([] ++ strOfNat 10) ++ [41]).length ≤ cap := app_cap (b := 1) l2 (nlr _)
   exact (w5.gv (d := .str (jj ++ [40] ++ ([] ++ strOfNat 10) ++ [41])) (.tr (Tr.v (mkl (l := (SL [])) (lbe rfl)) <| Tr.x (e1) <| Tr.v (mkl (l := (SL [])) (lbe rfl)) <| Tr.v (eq_nil (b := false) (lof (w1.g 1 rfl)) (w1.g 0 rfl) rfl) <| Tr.v (sm_join (lof (w1.g 1 rfl)) hs hj hj41) <| Tr.v (st_mth (nm := (so "take_sign")) (f := 799) w1.q (fun _ _ => by kernel_rfl)) <| Tr.v (e2) <| Tr.v (adds (x := (jj)) (y := [40]) l1') <| Tr.v (e3) <| Tr.v (adds (x := (jj ++ [40])) (y := (cp "10")) l2') <| Tr.v (st_mth (nm := (so "take_sign")) (f := 799) w3.q (fun _ _ => by kernel_rfl)) <| Tr.v (e4) <| Tr.v (st_mth (nm := (so "need_sign")) (f := 813) w4.q (fun _ _ => by kernel_rfl)) <| Tr.v (e5) <| Tr.v (adds (x := (jj ++ [40] ++ cp "10")) (y := [41]) l3) <| Tr.ret _) (by kernel_rfl))).cast (congrArg dS (by rw [lap, lap]; exact congrArg (jj ++ ·) (by kernel_rfl)))
  | k + 2 =>
   refine (tg_t (n := n + 1) (c := 40) (k := .sg 40) (r := .sg 43 :: .nu 5 :: .sg 44 :: .sg 45 :: .nu 2 :: .sg 41 :: f :: rest) rfl w1.x_lt w1.q).elim fun s2 e2 m2 => ?_
   have w2 := w1.mv m2
   refine (size_c (n := n) (pre := [.sg 43]) (ah := []) (k := 5) (rest := .sg 44 :: .sg 45 :: .nu 2 :: .sg 41 :: f :: rest) (.inr (.inl ⟨rfl, rfl⟩)) (by decide) (lbe (by kernel_rfl)) w2.x_lt w2.q).elim fun s3 e3 m3 => ?_
   have w3 := w2.mv m3
   have l2 : (jj ++ [40] ++ ([] ++ strOfNat 5)).length ≤ 43 := len_app (b := 2) l1 (lbe (by kernel_rfl))
   have l2' := to_cap l2
   refine (tg_t (n := n + 1) (c := 44) (k := .sg 44) (r := .sg 45 :: .nu 2 :: .sg 41 :: f :: rest) rfl w3.x_lt w3.q).elim fun s4 e4 m4 => ?_
   have w4 := w3.mv m4
   have l3 : (jj ++ [40] ++ ([] ++ strOfNat 5) ++ [44]).length ≤ 44 := len_app (b := 1) l2 (nlr _)
   have l3' := to_cap l3
   refine (size_c (n := n) (pre := [.sg 45]) (ah := [45]) (k := 2) (rest := .sg 41 :: f :: rest) (.inr (.inr ⟨rfl, rfl⟩)) (by decide) (lbe (by kernel_rfl)) w4.x_lt w4.q).elim fun s6 e6 m6 => ?_
   have w6 := w4.mv m6
   have l4 : (jj ++ [40] ++ ([] ++ strOfNat 5) ++ [44] ++ ([45] ++ strOfNat 2)).length ≤ 46 := len_app (b := 2) l3 (lbe (by kernel_rfl))
   have l4' := to_cap l4
   refine (ng_t (n := n) (c := 41) rfl w6.x_lt w6.q).elim fun s5 e5 m5 => ?_
   have w5 := w6.mv m5
   have l5 : (jj ++ [40] ++ ([] ++ strOfNat 5) ++ [44] ++ ([45] ++ strOfNat 2) ++ [41]).length ≤ cap := app_cap (b := 1) l4 (nlr _)
   exact (w5.gv (d := .str (jj ++ [40] ++ ([] ++ strOfNat 5) ++ [44] ++ ([45] ++ strOfNat 2) ++ [41])) (.tr (Tr.v (mkl (l := (SL [])) (lbe rfl)) <| Tr.x (e1) <| Tr.v (mkl (l := (SL [])) (lbe rfl)) <| Tr.v (eq_nil (b := false) (lof (w1.g 1 rfl)) (w1.g 0 rfl) rfl) <| Tr.v (sm_join (lof (w1.g 1 rfl)) hs hj hj41) <| Tr.v (st_mth (nm := (so "take_sign")) (f := 799) w1.q (fun _ _ => by kernel_rfl)) <| Tr.v (e2) <| Tr.v (adds (x := (jj)) (y := [40]) l1') <| Tr.v (e3) <| Tr.v (adds (x := (jj ++ [40])) (y := [53]) l2') <| Tr.v (st_mth (nm := (so "take_sign")) (f := 799) w3.q (fun _ _ => by kernel_rfl)) <| Tr.v (e4) <| Tr.v (adds (x := (jj ++ [40] ++ [53])) (y := [44]) l3') <| Tr.v (e6) <| Tr.v (adds (x := (jj ++ [40] ++ [53] ++ [44])) (y := (cp "-2")) l4') <| Tr.v (st_mth (nm := (so "need_sign")) (f := 813) w6.q (fun _ _ => by kernel_rfl)) <| Tr.v (e5) <| Tr.v (adds (x := (jj ++ [40] ++ [53] ++ [44] ++ cp "-2")) (y := [41]) l5) <| Tr.ret _) (by kernel_rfl))).cast (congrArg dS (by rw [lap, lap, lap, lap]; exact congrArg (jj ++ ·) (by kernel_rfl)))
end
end
section
open PySem
set_option genInjectivity false
set_option genSizeOf false
noncomputable def cfB (k : Tk) : Bool := !(isP k || isG 40 k || isK (cp "DESC") k || isK (cp "ASC") k)
inductive CuT : Option Cc → List Tk → Prop
 | no : CuT none [tk "NULL"]
 | cr {c ts} (h : CrT c ts) : CuT (some c) ts
section
variable {n m a : Nat} {s u : MSt} {t : List Nat} {f : Tk} {rest ts : List Tk} {o : Option Cc}
theorem cf_f (h : cfB f = true) : isP f = false ∧ isG 40 f = false ∧ isK (cp "DESC") f = false ∧ isK (cp "ASC") f = false := by
 have z := (Bool.not_eq_true' _).mp h
 have z1 := Bool.or_eq_false_iff.mp z
 have z2 := Bool.or_eq_false_iff.mp z1.1
 have z3 := Bool.or_eq_false_iff.mp z2.1
 exact ⟨z3.1, z3.2, z2.2, z1.2⟩
theorem cu_c (h : CuT o ts) (hf : cfB f = true) (r : Rd a m s) (q : Stm t (ts ++ f :: rest) (s.objs m)) : Gv (cl (n + 4) 355 [.ref a] s) (.d (occD o)) m (Stm t (f :: rest)) s := by
 have r0 := r
 have ha := r.h
 have al := r.al
 have an := r.an
 have w0 := Fw.start r.xl q
 cases h with
 | no =>
  refine w0.go (tk_f (n := n + 1) (y := cp "PRIMARY") (k := tk "NULL") (by kernel_rfl) (by kernel_rfl) w0.x_lt w0.q) fun s1 e1 w1 => ?_
  refine w1.go (tk_f (n := n + 1) (y := cp "NOT") (k := tk "NULL") (by kernel_rfl) (by kernel_rfl) w1.x_lt w1.q) fun s2 e2 w2 => ?_
  refine w2.go (tk_f (n := n + 1) (y := cp "UNIQUE") (k := tk "NULL") (by kernel_rfl) (by kernel_rfl) w2.x_lt w2.q) fun s3 e3 w3 => ?_
  refine w3.go (tk_f (n := n + 1) (y := cp "CHECK") (k := tk "NULL") (by kernel_rfl) (by kernel_rfl) w3.x_lt w3.q) fun s4 e4 w4 => ?_
  refine w4.go (tk_f (n := n + 1) (y := cp "DEFAULT") (k := tk "NULL") (by kernel_rfl) (by kernel_rfl) w4.x_lt w4.q) fun s5 e5 w5 => ?_
  refine w5.go (tk_f (n := n + 1) (y := cp "COLLATE") (k := tk "NULL") (by kernel_rfl) (by kernel_rfl) w5.x_lt w5.q) fun s6 e6 w6 => ?_
  refine w6.go (nk_t (n := n) (y := cp "NULL") (k := tk "NULL") (by kernel_rfl) (by kernel_rfl) w6.x_lt w6.q) fun s7 e7 w7 => ?_
  exact w7.gv (.tr (Tr.sm (nm := (so "take_key")) (f := 792) w0 r0 (fun _ _ => by kernel_rfl) e1 <| Tr.sm (nm := (so "take_key")) (f := 792) w1 r0 (fun _ _ => by kernel_rfl) e2 <| Tr.sm (nm := (so "take_key")) (f := 792) w2 r0 (fun _ _ => by kernel_rfl) e3 <| Tr.sm (nm := (so "take_key")) (f := 792) w3 r0 (fun _ _ => by kernel_rfl) e4 <| Tr.sm (nm := (so "take_key")) (f := 792) w4 r0 (fun _ _ => by kernel_rfl) e5 <| Tr.sm (nm := (so "take_key")) (f := 792) w5 r0 (fun _ _ => by kernel_rfl) e6 <| Tr.sm (nm := (so "need_key")) (f := 806) w6 r0 (fun _ _ => by kernel_rfl) e7 <| Tr.ret _) (by kernel_rfl))
 | cr h =>
  cases h with
  | pk hd =>
   refine (tk_t (n := n + 1) (y := cp "PRIMARY") (k := tk "PRIMARY") (by kernel_rfl) (by kernel_rfl) w0.x_lt w0.q).elim fun s1 e1 m1 => ?_
   have w1 := w0.mv m1
   refine (nk_t (n := n) (y := cp "KEY") (k := tk "KEY") (by kernel_rfl) (by kernel_rfl) w1.x_lt w1.q).elim fun s2 e2 m2 => ?_
   have w2 := w1.mv m2
   have z := cf_f hf
   refine w2.go (de_c (n := n) hd z.2.2.1 z.2.2.2 ((r.mv m1).mv m2) w2.q) fun s3 e3 w3 => ?_
   exact w3.gv (.tr (Tr.sm (nm := (so "take_key")) (f := 792) w0 r0 (fun _ _ => by kernel_rfl) e1 <| Tr.sm (nm := (so "need_key")) (f := 806) w1 r0 (fun _ _ => by kernel_rfl) e2 <| Tr.v (mth_of (a := (so "is_descending")) (f := 334) (w2.ext ha al an) (by kernel_rfl)) <| Tr.v (e3) <| Tr.ret _) (by kernel_rfl))
  | nn =>
   refine w0.go (tk_f (n := n + 1) (y := cp "PRIMARY") (k := tk "NOT") (by kernel_rfl) (by kernel_rfl) w0.x_lt w0.q) fun s1 e1 w1 => ?_
   refine w1.go (tk_t (n := n + 1) (y := cp "NOT") (k := tk "NOT") (by kernel_rfl) (by kernel_rfl) w1.x_lt w1.q) fun s2 e2 w2 => ?_
   refine w2.go (nk_t (n := n) (y := cp "NULL") (k := tk "NULL") (by kernel_rfl) (by kernel_rfl) w2.x_lt w2.q) fun s3 e3 w3 => ?_
   exact w3.gv (.tr (Tr.sm (nm := (so "take_key")) (f := 792) w0 r0 (fun _ _ => by kernel_rfl) e1 <| Tr.sm (nm := (so "take_key")) (f := 792) w1 r0 (fun _ _ => by kernel_rfl) e2 <| Tr.sm (nm := (so "need_key")) (f := 806) w2 r0 (fun _ _ => by kernel_rfl) e3 <| Tr.ret _) (by kernel_rfl))
  | uq =>
   refine w0.go (tk_f (n := n + 1) (y := cp "PRIMARY") (k := tk "UNIQUE") (by kernel_rfl) (by kernel_rfl) w0.x_lt w0.q) fun s1 e1 w1 => ?_
   refine w1.go (tk_f (n := n + 1) (y := cp "NOT") (k := tk "UNIQUE") (by kernel_rfl) (by kernel_rfl) w1.x_lt w1.q) fun s2 e2 w2 => ?_
   refine w2.go (tk_t (n := n + 1) (y := cp "UNIQUE") (k := tk "UNIQUE") (by kernel_rfl) (by kernel_rfl) w2.x_lt w2.q) fun s3 e3 w3 => ?_
   exact w3.gv (.tr (Tr.sm (nm := (so "take_key")) (f := 792) w0 r0 (fun _ _ => by kernel_rfl) e1 <| Tr.sm (nm := (so "take_key")) (f := 792) w1 r0 (fun _ _ => by kernel_rfl) e2 <| Tr.sm (nm := (so "take_key")) (f := 792) w2 r0 (fun _ _ => by kernel_rfl) e3 <| Tr.ret _) (by kernel_rfl))
  | co =>
   refine w0.go (tk_f (n := n + 1) (y := cp "PRIMARY") (k := tk "COLLATE") (by kernel_rfl) (by kernel_rfl) w0.x_lt w0.q) fun s1 e1 w1 => ?_
   refine w1.go (tk_f (n := n + 1) (y := cp "NOT") (k := tk "COLLATE") (by kernel_rfl) (by kernel_rfl) w1.x_lt w1.q) fun s2 e2 w2 => ?_
   refine w2.go (tk_f (n := n + 1) (y := cp "UNIQUE") (k := tk "COLLATE") (by kernel_rfl) (by kernel_rfl) w2.x_lt w2.q) fun s3 e3 w3 => ?_
   refine w3.go (tk_f (n := n + 1) (y := cp "CHECK") (k := tk "COLLATE") (by kernel_rfl) (by kernel_rfl) w3.x_lt w3.q) fun s4 e4 w4 => ?_
   refine w4.go (tk_f (n := n + 1) (y := cp "DEFAULT") (k := tk "COLLATE") (by kernel_rfl) (by kernel_rfl) w4.x_lt w4.q) fun s5 e5 w5 => ?_
   refine w5.go (tk_t (n := n + 1) (y := cp "COLLATE") (k := tk "COLLATE") (by kernel_rfl) (by kernel_rfl) w5.x_lt w5.q) fun s6 e6 w6 => ?_
   refine w6.go (nn_t (n := n + 1) w6.x_lt w6.q) fun s7 e7 w7 => ?_
   exact w7.gv (.tr (Tr.sm (nm := (so "take_key")) (f := 792) w0 r0 (fun _ _ => by kernel_rfl) e1 <| Tr.sm (nm := (so "take_key")) (f := 792) w1 r0 (fun _ _ => by kernel_rfl) e2 <| Tr.sm (nm := (so "take_key")) (f := 792) w2 r0 (fun _ _ => by kernel_rfl) e3 <| Tr.sm (nm := (so "take_key")) (f := 792) w3 r0 (fun _ _ => by kernel_rfl) e4 <| Tr.sm (nm := (so "take_key")) (f := 792) w4 r0 (fun _ _ => by kernel_rfl) e5 <| Tr.sm (nm := (so "take_key")) (f := 792) w5 r0 (fun _ _ => by kernel_rfl) e6 <| Tr.sm (nm := (so "need_name")) (f := 820) w6 r0 (fun _ _ => by kernel_rfl) e7 <| Tr.ret _) (by kernel_rfl))
end
noncomputable def ckL : List (List Nat) := [cp "CONSTRAINT", cp "PRIMARY", cp "NOT", cp "NULL", cp "UNIQUE", cp "CHECK", cp "DEFAULT", cp "COLLATE"]
inductive CcS : List Cc → List Tk → Prop
 | nil : CcS [] []
 | ah {n : Na} {cs ts} (r : CcS cs ts) : CcS cs (tk "CONSTRAINT" :: .free n.1 :: ts)
 | cu {o cs t ts} (h : CuT o t) (r : CcS cs ts) : CcS (o.toList ++ cs) (t ++ ts)
section
variable {n m a : Nat} {s u : MSt} {t : List Nat} {f : Tk} {rest ts : List Tk} {o : Option Cc} {c : Cl} {cs : List Cc}
theorem cu_hd (h : CuT o ts) : ∃ k r, ts = k :: r ∧ (inL ckL k && (!isK (cp "CONSTRAINT") k && cfB k)) = true := by
 cases h with
 | no => exact ⟨_, _, rfl, by kernel_rfl⟩
 | cr h => cases h with
  | pk => exact ⟨_, _, rfl, by kernel_rfl⟩
  | nn => exact ⟨_, _, rfl, by kernel_rfl⟩
  | uq => exact ⟨_, _, rfl, by kernel_rfl⟩
  | co => exact ⟨_, _, rfl, by kernel_rfl⟩
theorem CcsT.cu (h : CcsT cs ts) : CcS cs ts := by
 induction h with
 | nil => exact .nil
 | ah _ ih => exact .ah ih
 | no _ ih => exact .cu .no ih
 | cr h _ ih => exact .cu (.cr h) ih
theorem CcS.hd (h : CcS cs ts) (hf : cfB f = true) : ∃ k r, ts ++ f :: rest = k :: r ∧ cfB k = true := by
 cases h with
 | nil => exact ⟨f, rest, rfl, hf⟩
 | ah r => exact ⟨_, _, rfl, by kernel_rfl⟩
 | cu h r =>
  refine (cu_hd h).elim fun k z => z.elim fun r' z => ⟨k, r' ++ _ ++ f :: rest, by rw [z.1]; rfl, ?_⟩
  exact ((Bool.and_eq_true _ _).mp ((Bool.and_eq_true _ _).mp z.2).2).2
theorem CcS.len (h : CcS cs ts) : cs.length ≤ ts.length := by
 induction h with
 | nil => exact nlr _
 | ah _ ih => exact nlt ih (nla _ 2)
 | cu h _ ih =>
  rw [lla, lla]
  refine Nat.add_le_add (nlt (Option.length_toList_le (o := _)) ?_) ih
  refine (cu_hd h).elim fun k z => z.elim fun r' z => ?_
  rw [z.1]; exact Nat.succ_le_succ (Nat.zero_le _)
theorem Stm.len {toks : List Tk} {ob : MObj} (q : Stm t toks ob) : toks.length ≤ 900000 := by
 cases q with | mk ws i e a l p =>
 rw [All2.length _ a, List.length_drop]; exact nlt (Nat.sub_le ..) l
noncomputable def cdE (a q : Nat) (nm : Na) (ty : To) : EL := [(so "self", .ref a), (so "name", dS nm.1), (so "type_name", .d (optD ty.1)), (so "constraints", .ref q)]
structure Cg (a m : Nat) (t : List Nat) (F : List Tk) (cs : List Cc) (q : Nat) (s : MSt) (z : List Cc × List Cc × List Tk) (u : MSt) : Prop where
 w : Fw m (Stm t (z.2.2 ++ F)) s [(q, .list ((z.1.map ccRow).map .d))] u
 r : Rd a m u
 f : CcS z.2.1 z.2.2
 e : z.1 ++ z.2.1 = cs
theorem cd_c (h : ClT c ts) (hf : cfB f = true) (hk : inL ckL f = false) (r : Rd a m s) (q : Stm t (ts ++ f :: rest) (s.objs m)) : Gv (cl (n + 5) 348 [.ref a] s) (.d (clD c)) m (Stm t (f :: rest)) s := by
 have r0 := r
 have ha := r.h
 have al := r.al
 have an := r.an
 obtain ⟨nm, ty, cs⟩ := c
 cases h with | @mk ta tb hty hcs =>
 have hcs := hcs.cu
 have q0 : Stm t (.free nm.1 :: (ta ++ (tb ++ f :: rest))) (s.objs m) := by rw [← lap]; exact q
 have w0 := Fw.start r.xl q0
 refine w0.go (nn_t (n := n + 2) w0.x_lt w0.q) fun s1 e1 w1 => ?_
 refine (hcs.hd (rest := rest) hf).elim fun k' z => z.elim fun r' z => ?_
 have q1 := w1.q
 rw [z.1] at q1
 refine (type_c (n := n) hty (cf_f z.2).1 (cf_f z.2).2.1 w1.x_lt q1).elim fun s2 e2 m2 => ?_
 rw [← z.1] at m2
 have w2 := w1.mv m2
 have w3 := w2.nw (.list (([] : List D).map .d))
 have lt := w2.q.len
 have lc := nlt hcs.len (nlt (by rw [lla]; exact nla _ _) lt)
 refine (wx_run (n := n + 4) (sc := fS 348) (st := stAt 348 3) (u := nw s2 (.list (([] : List D).map .d))) (E := [(so "constraints", .ref s2.next), (so "type_name", .d (optD ty.1)), (so "name", dS nm.1), (so "self", .ref a)]) (pre := fun _ => cdE a s2.next nm ty) (I := Cg a m t (f :: rest) cs s2.next s) (J := fun z u => Cg a m t (f :: rest) cs s2.next s z u ∧ z.2.1 = [] ∧ z.2.2 = []) (μ := fun z => z.2.2.length) (a := ([], cs, tb)) (by kernel_rfl) ?_ ?_ rfl ⟨w3, ⟨w3.ext ha al an, lll al w3.n, an, w3.x_lt⟩, hcs, rfl⟩).elim fun z E u1 e3 j => ?_
 ·intro z E u I
  obtain ⟨dn, xr, tr⟩ := z
  have w := I.w
  have r := I.r
  have hf := I.f
  have he := I.e
  cases hf with
  | nil =>
   refine (one_of_c (n := n + 3) (b := false) (l := ckL) (k := f) (r := rest) hk (by kernel_rfl) w.x_lt w.q).elim fun s4 e4 m4 => ?_
   have w4 := w.mv m4
   exact .stop s4 (ts_run (Tr.sm (nm := (so "is_one_of")) (f := 778) w r0 (fun _ _ => by kernel_rfl) e4 <| Tr.ret _) (by kernel_rfl)) ⟨⟨w4, r.mv m4, .nil, I.e⟩, rfl, rfl⟩
  | @ah n1 _ tr1 hr =>
   refine (one_of_c (n := n + 3) (b := true) (l := ckL) (k := tk "CONSTRAINT") (r := .free n1.1 :: (tr1 ++ f :: rest)) (by kernel_rfl) (by kernel_rfl) w.x_lt w.q).elim fun s4 e4 m4 => ?_
   have w4 := w.mv m4
   refine (tk_t (n := n + 2) (y := cp "CONSTRAINT") (k := tk "CONSTRAINT") (by kernel_rfl) (by kernel_rfl) w4.x_lt w4.q).elim fun s5 e5 m5 => ?_
   have w5 := w4.mv m5
   refine (nn_t (n := n + 2) w5.x_lt w5.q).elim fun s6 e6 m6 => ?_
   have w6 := w5.mv m6
   exact .go s4 (ts_run (Tr.sm (nm := (so "is_one_of")) (f := 778) w r0 (fun _ _ => by kernel_rfl) e4 <| Tr.ret _) (by kernel_rfl))
    ⟨(dn, xr, tr1), cdE a s2.next nm ty ++ E, _, xs_on (Tr.sm (nm := (so "take_key")) (f := 792) w4 r0 (fun _ _ => by kernel_rfl) e5 <| Tr.sm (nm := (so "need_name")) (f := 820) w5 r0 (fun _ _ => by kernel_rfl) e6 <| Tr.ret _) (by kernel_rfl), (by exact rfl), ⟨w6, ((r.mv m4).mv m5).mv m6, hr, I.e⟩, Nat.lt_succ_of_lt (nls _)⟩
  | @cu o xr1 t2 tr1 hu hr =>
   refine (cu_hd hu).elim fun k1 z => z.elim fun r1 z => ?_
   have z2 := (Bool.and_eq_true _ _).mp z.2
   have z3 := (Bool.and_eq_true _ _).mp z2.2
   have q1 : Stm t (t2 ++ (tr1 ++ f :: rest)) (u.objs m) := by rw [← lap]; exact w.q
   have q1 : Stm t (k1 :: (r1 ++ (tr1 ++ f :: rest))) (u.objs m) := by rw [z.1] at q1; exact q1
   have w := w.imp (Q' := Stm t (k1 :: (r1 ++ (tr1 ++ f :: rest)))) fun _ => q1
   refine (one_of_c (n := n + 3) (b := true) (l := ckL) z2.1 (by kernel_rfl) w.x_lt w.q).elim fun s4 e4 m4 => ?_
   have w4 := w.mv m4
   refine (tk_f (n := n + 2) (y := cp "CONSTRAINT") ((Bool.not_eq_true' _).mp z3.1) (by kernel_rfl) w4.x_lt w4.q).elim fun s5 e5 m5 => ?_
   have w5 := w4.mv m5
   refine (hr.hd (rest := rest) hf).elim fun k' y => y.elim fun r' y => ?_
   have q5 : Stm t (t2 ++ (tr1 ++ f :: rest)) (s5.objs m) := by have z5 := w5.q; rw [← List.cons_append, ← z.1] at z5; exact z5
   rw [y.1] at q5
   have r5 := (r.mv m4).mv m5
   refine (cu_c (n := n) hu y.2 r5 q5).elim fun s6 e6 m6 => ?_
   rw [← y.1] at m6
   have w6 := w5.mv m6
   have r6 := r5.mv m6
   have hm : tr1.length < (t2 ++ tr1).length := by rw [z.1, lla]; exact Nat.lt_add_of_pos_left (Nat.succ_pos _)
   have et : tst (cN KK (n + 4)) (lpP (stAt 348 3)).1 (fS 348) (lk (cdE a s2.next nm ty ++ E)) u = .ok true s4 := ts_run (Tr.sm (nm := (so "is_one_of")) (f := 778) w r0 (fun _ _ => by kernel_rfl) e4 <| Tr.ret _) (by kernel_rfl)
   cases o with
   | none =>
    exact .go s4 et ⟨(dn, xr1, tr1), (so "constraint", .d .none) :: (cdE a s2.next nm ty ++ E), _, xs_on (Tr.sm (nm := (so "take_key")) (f := 792) w4 r0 (fun _ _ => by kernel_rfl) e5 <| Tr.v (mth_of (a := (so "column_constraint")) (f := 355) (w5.ext ha al an) (by kernel_rfl)) <| Tr.v (e6) <| Tr.ret _) (by kernel_rfl), (by exact rfl), ⟨w6, r6, hr, he⟩, hm⟩
   | some c =>
    have sn := map_snoc ccRow dn c
    have hn : ((dn.map ccRow).map MV.d).length < cap := by
     rw [llm, llm]
     refine lll ?_ (nlt lc (by decide : 900000 ≤ cap))
     show _ < cs.length
     rw [← he, lla]; exact Nat.lt_add_of_pos_right (Nat.succ_pos _)
    have w7 := w6.put 0 rfl (.list (((dn ++ [c]).map ccRow).map .d))
    exact .go s4 et ⟨(dn ++ [c], xr1, tr1), (so "constraint", .d (ccRow c)) :: (cdE a s2.next nm ty ++ E), _, xs_on (Tr.sm (nm := (so "take_key")) (f := 792) w4 r0 (fun _ _ => by kernel_rfl) e5 <| Tr.v (mth_of (a := (so "column_constraint")) (f := 355) (w5.ext ha al an) (by kernel_rfl)) <| Tr.v (e6) <| Tr.v (app_m (w6.g 0 rfl)) <| Tr.v (app_e (v := (.d (occD (some c)))) (w6.g 0 rfl) hn sn) <| Tr.ret _) (by kernel_rfl), (by exact rfl), ⟨w7, ⟨w7.ext ha al an, lll al w7.n, an, w7.x_lt⟩, hr, by rw [lap]; exact he⟩, hm⟩
 ·exact nll (nlt (by rw [lla]; exact nla _ _) lt) (by decide : 900000 < 1000000)
 ·obtain ⟨dn, xr, tr⟩ := z
  have e0 : xr = [] := j.2.1
  have e1' : tr = [] := j.2.2
  subst e0
  subst e1'
  have w := j.1.w
  have e2' : dn = cs := (lan dn).symm.trans j.1.e
  subst e2'
  have w4 := w.put 0 rfl .gone
  refine (new_116 (n := n + 3) (c := ⟨nm, ty, dn⟩) (s := u1) (w.g 0 rfl) (w.lt 0 rfl)).elim fun s4 e4 h4 => ?_
  have w5 := w4.nt h4
  exact w5.gv (.tr (Tr.sm (nm := (so "need_name")) (f := 820) w0 r0 (fun _ _ => by kernel_rfl) e1 <| Tr.v (fld_of (a := (so "stream")) (v := (.ref (m))) (w1.ext ha al an) (by kernel_rfl)) <| Tr.v (e2) <| Tr.v (mkl (l := (List.map MV.d [])) (lbe rfl)) <| Tr.x (e3) <| Tr.v (e4) <| Tr.ret _) (by kernel_rfl))
end
section
variable {n m a : Nat} {s u : MSt} {t : List Nat} {k : Tk} {r toks rest ts : List Tk} {c : Tc}
theorem tc_c (h : TcT c ts) (rd : Rd a m s) (q : Stm t (ts ++ rest) (s.objs m)) : Gv (cl (n + 7) 369 [.ref a] s) (.d (tcD c)) m (Stm t rest) s := by
 have r0 := rd
 have ha := rd.h
 have al := rd.al
 have an := rd.an
 obtain ⟨pk, cols⟩ := c
 cases h with | @mk a2 h =>
 cases pk with
 | false =>
  have w0 := Fw.start (Q := Stm t (tk "UNIQUE" :: (a2 ++ rest))) rd.xl q
  refine (tk_f (n := n + 4) (y := cp "CONSTRAINT") (k := tk "UNIQUE") (by kernel_rfl) (by kernel_rfl) w0.x_lt w0.q).elim fun s1 e1 m1 => ?_
  have w1 := w0.mv m1
  refine (tk_f (n := n + 4) (y := cp "PRIMARY") (k := tk "UNIQUE") (by kernel_rfl) (by kernel_rfl) w1.x_lt w1.q).elim fun s2 e2 m2 => ?_
  have w2 := w1.mv m2
  refine (tk_t (n := n + 4) (y := cp "UNIQUE") (k := tk "UNIQUE") (by kernel_rfl) (by kernel_rfl) w2.x_lt w2.q).elim fun s3 e3 m3 => ?_
  have w3 := w2.mv m3
  refine w3.go (ixs_c (n := n) h (((rd.mv m1).mv m2).mv m3) w3.q) fun s4 e4 w4 => ?_
  refine (new_168 (n := n + 5) (x := ⟨false, cols⟩) (s := s4)).elim fun s5 e5 h5 => ?_
  have w5 := w4.nt h5
  exact w5.gv (.tr (Tr.sm (nm := (so "take_key")) (f := 792) w0 r0 (fun _ _ => by kernel_rfl) e1 <| Tr.sm (nm := (so "take_key")) (f := 792) w1 r0 (fun _ _ => by kernel_rfl) e2 <| Tr.sm (nm := (so "take_key")) (f := 792) w2 r0 (fun _ _ => by kernel_rfl) e3 <| Tr.v (mth_of (a := (so "indexed_columns")) (f := 320) (w3.ext ha al an) (by kernel_rfl)) <| Tr.v (e4) <| Tr.v (e5) <| Tr.ret _) (by kernel_rfl))
 | true =>
  have w0 := Fw.start (Q := Stm t (tk "PRIMARY" :: tk "KEY" :: (a2 ++ rest))) rd.xl q
  refine (tk_f (n := n + 4) (y := cp "CONSTRAINT") (k := tk "PRIMARY") (by kernel_rfl) (by kernel_rfl) w0.x_lt w0.q).elim fun s1 e1 m1 => ?_
  have w1 := w0.mv m1
  refine (tk_t (n := n + 4) (y := cp "PRIMARY") (k := tk "PRIMARY") (by kernel_rfl) (by kernel_rfl) w1.x_lt w1.q).elim fun s2 e2 m2 => ?_
  have w2 := w1.mv m2
  refine (nk_t (n := n + 3) (y := cp "KEY") (k := tk "KEY") (by kernel_rfl) (by kernel_rfl) w2.x_lt w2.q).elim fun s3 e3 m3 => ?_
  have w3 := w2.mv m3
  refine w3.go (ixs_c (n := n) h (((rd.mv m1).mv m2).mv m3) w3.q) fun s4 e4 w4 => ?_
  refine (new_168 (n := n + 5) (x := ⟨true, cols⟩) (s := s4)).elim fun s5 e5 h5 => ?_
  have w5 := w4.nt h5
  exact w5.gv (.tr (Tr.sm (nm := (so "take_key")) (f := 792) w0 r0 (fun _ _ => by kernel_rfl) e1 <| Tr.sm (nm := (so "take_key")) (f := 792) w1 r0 (fun _ _ => by kernel_rfl) e2 <| Tr.sm (nm := (so "need_key")) (f := 806) w2 r0 (fun _ _ => by kernel_rfl) e3 <| Tr.v (mth_of (a := (so "indexed_columns")) (f := 320) (w3.ext ha al an) (by kernel_rfl)) <| Tr.v (e4) <| Tr.v (e5) <| Tr.ret _) (by kernel_rfl))
theorem if_c {b : Bool} (hk : hdB (isK (cp "IF")) toks = false) (rd : Rd a m s) (q : Stm t (ineT b ++ toks) (s.objs m)) : Gv (cl (n + 4) 299 [.ref a] s) (.d (.bool b)) m (Stm t toks) s := by
 have r0 := rd
 have ha := rd.h
 have al := rd.al
 have an := rd.an
 cases b with
 | false =>
  have w0 := Fw.start (Q := Stm t toks) rd.xl q
  refine w0.go (tk_n (n := n + 1) (y := cp "IF") hk (by kernel_rfl) w0.x_lt w0.q) fun s1 e1 w1 => ?_
  exact w1.gv (.tr (Tr.sm (nm := (so "take_key")) (f := 792) w0 r0 (fun _ _ => by kernel_rfl) e1 <| Tr.ret _) (by kernel_rfl))
 | true =>
  have w0 := Fw.start (Q := Stm t (tk "IF" :: tk "NOT" :: tk "EXISTS" :: toks)) rd.xl q
  refine w0.go (tk_t (n := n + 1) (y := cp "IF") (k := tk "IF") (by kernel_rfl) (by kernel_rfl) w0.x_lt w0.q) fun s1 e1 w1 => ?_
  refine w1.go (nk_t (n := n) (y := cp "NOT") (k := tk "NOT") (by kernel_rfl) (by kernel_rfl) w1.x_lt w1.q) fun s2 e2 w2 => ?_
  refine w2.go (nk_t (n := n) (y := cp "EXISTS") (k := tk "EXISTS") (by kernel_rfl) (by kernel_rfl) w2.x_lt w2.q) fun s3 e3 w3 => ?_
  exact w3.gv (.tr (Tr.sm (nm := (so "take_key")) (f := 792) w0 r0 (fun _ _ => by kernel_rfl) e1 <| Tr.sm (nm := (so "need_key")) (f := 806) w1 r0 (fun _ _ => by kernel_rfl) e2 <| Tr.sm (nm := (so "need_key")) (f := 806) w2 r0 (fun _ _ => by kernel_rfl) e3 <| Tr.ret _) (by kernel_rfl))
theorem st_txt (q : Stm t toks (s.objs m)) : optM (getField T0 (.ref m) (so "text")) s = .ok (dS t) s := by
 cases q with | mk ws i e a l p => exact fld_of e (by kernel_rfl)
theorem rs_len {x : List Nat} (h : x.length ≤ cap) : (rstripL x).length ≤ cap := nlt (le_strSub ⟨x.toArray⟩ _ _) h
theorem wr_c (ht : t.length ≤ 900000) (rd : Rd a m s) (q : Stm t (k :: r) (s.objs m)) : Cal dS (cl (n + 2) 306 [.ref a, .d (.int 0)] s) m (Stm t (k :: r)) s fun x => x.length ≤ cap ∧ (k = .en → x = rstripL t) := by
 have r0 := rd
 have ha := rd.h
 have al := rd.al
 have an := rd.an
 have w0 := Fw.start rd.xl q
 have e0 := st_txt q
 refine (here_c (n := n) w0.x_lt w0.q).elim fun w s1 e1 m1 h1 => ?_
 have w1 := w0.mv m1
 have ht' : t.length ≤ cap := nlt ht (by decide)
 have l1 : (t.take w.place).length ≤ cap := nlt ((List.take_sublist ..).length_le) ht'
 have ec1 : cut t (some 0) (some w.place) = t.take w.place := rfl
 have e2 : strMeth .rstrip (t.take w.place) [] s1 = .ok (dS (rstripL (t.take w.place))) s1 := mks (rs_len l1)
 exact w1.rD (rstripL (t.take w.place)) ⟨rs_len l1, fun e => by
  subst e
  rw [List.take_of_length_le (h1.2 h1.1)]⟩ (Tr.v (fld_of (a := (so "stream")) (v := (.ref (m))) ha (by kernel_rfl)) <| Tr.v (e0) <| Tr.sm (nm := (so "here")) (f := 729) w0 r0 (fun _ _ => by kernel_rfl) e1 <| Tr.v (gs_se (lo := (some (.int 0))) (hi := (some (.int (((w.place) : Nat) : Int)))) rfl rfl ec1 ht') <| Tr.v (e2) <| Tr.ret _) (by kernel_rfl)
end
noncomputable def tkL : List (List Nat) := [cp "CONSTRAINT", cp "PRIMARY", cp "UNIQUE", cp "CHECK"]
structure Tz where
 dc : List Cl
 cr : List Cl
 A : List Tk
 dt : List Tc
 tr : List Tc
 B : List Tk
noncomputable def tbE (a q p : Nat) (mi : Bool) (nm : Na) : EL := [(so "self", .ref a), (so "begin", .d (.int 0)), (so "if_missing", .d (.bool mi)), (so "name", dS nm.1), (so "columns", .ref q), (so "constraints", .ref p)]
structure Tg (a m : Nat) (t : List Nat) (F : List Tk) (cls : List Cl) (tcs : List Tc) (q p : Nat) (s : MSt) (z : Tz) (u : MSt) : Prop where
 w : Fw m (Stm t (z.A ++ (z.B ++ .sg 41 :: F))) s [(p, .list ((z.dt.map tcD).map .d)), (q, .list ((z.dc.map clD).map .d))] u
 r : Rd a m u
 f : FlT ClT z.cr z.A
 g : FlT TcT z.tr z.B
 e : z.dc ++ z.cr = cls
 d : z.dt ++ z.tr = tcs
 o : z.cr = [] ∨ z.dt = []
section
variable {n m a : Nat} {s u : MSt} {t : List Nat} {k : Tk} {rest ts F A B t1 : List Tk} {c : Cl} {cls : List Cl} {tcs : List Tc} {mi : Bool} {nm : Na}
theorem fl_hd {α : Type} {R : α → List Tk → Prop} {xs : List α} {P : Tk → Prop} {T : List Tk} (h : FlT R xs ts) (hp : P (.sg 44)) (hT : ∃ k r, T = k :: r ∧ P k) : ∃ k r, ts ++ T = k :: r ∧ P k := by
 cases h with
 | nil => exact hT
 | cons => exact ⟨_, _, rfl, hp⟩
theorem ne_nil {v : MV} {l : List MV} {b : Bool} {q : Nat} (ha : lOf v s = some l) (hb : s.objs q = .list []) (e : (!l.isEmpty) = b) : mB (cmpM .NotEq v (.ref q)) s = .ok (.d (.bool b)) s := cm (by
 show (if nil? (s.objs q) then (lOf v s).map (·.isEmpty) else none).map (!·) = some b
 rw [hb, ha, ← e]; rfl)
theorem tc_hd {x : Tc} (h : TcT x ts) : ∃ k r, ts = k :: r ∧ inL tkL k = true := by
 obtain ⟨pk, cols⟩ := x
 cases h
 cases pk
 ·exact ⟨_, _, rfl, by kernel_rfl⟩
 ·exact ⟨_, _, rfl, by kernel_rfl⟩
theorem cl_c (h : ClT c ts) (hA : FlT ClT cls A) (hB : FlT TcT tcs B) (r : Rd a m s) (q : Stm t (ts ++ (A ++ (B ++ .sg 41 :: F))) (s.objs m)) : Gv (cl (n + 5) 348 [.ref a] s) (.d (clD c)) m (Stm t (A ++ (B ++ .sg 41 :: F))) s := by
 refine (fl_hd (P := fun k => cfB k = true ∧ inL ckL k = false) hA ⟨by kernel_rfl, by kernel_rfl⟩ (fl_hd hB ⟨by kernel_rfl, by kernel_rfl⟩ ⟨.sg 41, F, rfl, by kernel_rfl, by kernel_rfl⟩)).elim fun k z => z.elim fun r' z => ?_
 rw [z.1] at q ⊢
 exact cd_c h z.2.1 z.2.2 r q
theorem tb_c (ht : t.length ≤ 900000) (hf : isK (cp "WITHOUT") k = false) (hc : ClT c t1) (hA : FlT ClT cls A) (hB : FlT TcT tcs B) (hl : cls.length ≤ 1) (hl2 : tcs.length ≤ 1) (r : Rd a m s) (q : Stm t (ineT mi ++ (.free nm.1 :: .sg 40 :: (t1 ++ (A ++ (B ++ .sg 41 :: k :: rest))))) (s.objs m)) :
  Cal (fun x => .d (nodeD x (.table mi nm (c :: cls) tcs))) (cl (n + 8) 341 [.ref a, .d (.int 0)] s) m (Stm t (k :: rest)) s fun x => k = .en → x = rstripL t := by
 have r0 := r
 have ha := r.h
 have al := r.al
 have an := r.an
 have w0 := Fw.start r.xl q
 refine (if_c (n := n + 3) (b := mi) rfl r w0.q).elim fun s1 e1 m1 => ?_
 have w1 := w0.mv m1
 refine (nn_t (n := n + 5) w1.x_lt w1.q).elim fun s2 e2 m2 => ?_
 have w2 := w1.mv m2
 refine (ng_t (n := n + 4) (c := 40) (k := .sg 40) rfl w2.x_lt w2.q).elim fun s3 e3 m3 => ?_
 have w3 := w2.mv m3
 refine w3.go (cl_c (n := n + 2) hc hA hB (((r.mv m1).mv m2).mv m3) w3.q) fun s4 e4 w4 => ?_
 have w5 := w4.nw (.list (([c].map clD).map .d))
 have w6 := w5.nw (.list (([] : List D).map .d))
 have r6 : Rd a m (nw (nw s4 (.list (([c].map clD).map .d))) (.list (([] : List D).map .d))) := ⟨w6.ext ha al an, lll al w6.n, an, w6.x_lt⟩
 refine (wx_run (n := n + 7) (sc := fS 341) (st := stAt 341 5) (u := nw (nw s4 (.list (([c].map clD).map .d))) (.list (([] : List D).map .d))) (E := [(so "constraints", .ref (s4.next + 1)), (so "columns", .ref s4.next), (so "name", dS nm.1), (so "if_missing", .d (.bool mi)), (so "self", .ref a), (so "begin", .d (.int 0))]) (pre := fun _ => tbE a s4.next (s4.next + 1) mi nm) (I := Tg a m t (k :: rest) (c :: cls) tcs s4.next (s4.next + 1) s) (J := fun z u => Tg a m t (k :: rest) (c :: cls) tcs s4.next (s4.next + 1) s z u ∧ z.cr = [] ∧ z.tr = []) (μ := fun z => z.cr.length + z.tr.length) (a := ⟨[c], cls, A, [], tcs, B⟩) (by kernel_rfl) ?_ ?_ rfl ⟨w6, r6, hA, hB, rfl, rfl, .inr rfl⟩).elim fun z E u1 e5 j => ?_
 ·intro z E u I
  obtain ⟨dc, cr, A, dt, tr, B⟩ := z
  have w := I.w
  have r := I.r
  have hA := I.f
  have hB := I.g
  have he := I.e
  have hd := I.d
  have ho := I.o
  cases hA with
  | nil =>
   cases hB with
   | nil =>
    refine (tg_f (n := n + 5) (c := 44) (k := .sg 41) (r := k :: rest) rfl w.x_lt w.q).elim fun s5 e5 m5 => ?_
    have w5 := w.mv m5
    exact .stop s5 (ts_run (Tr.sm (nm := (so "take_sign")) (f := 799) w r0 (fun _ _ => by kernel_rfl) e5 <| Tr.ret _) (by kernel_rfl)) ⟨⟨w5, r.mv m5, .nil, .nil, he, hd, ho⟩, rfl, rfl⟩
   | @cons x tr1 t2 B1 hx hB1 =>
    have q1 : Stm t (.sg 44 :: (t2 ++ (B1 ++ .sg 41 :: k :: rest))) (u.objs m) := by
     have z : Stm t (.sg 44 :: (t2 ++ B1 ++ .sg 41 :: k :: rest)) (u.objs m) := w.q
     rwa [lap] at z
    refine (tg_t (n := n + 5) (c := 44) (k := .sg 44) rfl w.x_lt q1).elim fun s5 e5 m5 => ?_
    have w5 := w.mv m5
    refine (tc_hd hx).elim fun k1 z => z.elim fun r1 z => ?_
    have q5 := w5.q
    rw [z.1] at q5
    refine (one_of_c (n := n + 6) (b := true) (l := tkL) (k := k1) (r := r1 ++ (B1 ++ .sg 41 :: k :: rest)) z.2 (by kernel_rfl) w5.x_lt q5).elim fun s6 e6 m6 => ?_
    rw [← List.cons_append, ← z.1] at m6
    have w6 := w5.mv m6
    have r6 := (r.mv m5).mv m6
    refine w6.go (tc_c (n := n) hx r6 w6.q) fun s7 e7 w7 => ?_
    have sn := map_snoc tcD dt x
    have hn := dn_lt (g := tcD) hd (Nat.le_succ_of_le hl2)
    have w8 := w7.put 0 rfl (.list (((dt ++ [x]).map tcD).map .d))
    exact .go s5 (ts_run (Tr.sm (nm := (so "take_sign")) (f := 799) w r0 (fun _ _ => by kernel_rfl) e5 <| Tr.ret _) (by kernel_rfl))
     ⟨⟨dc, [], [], dt ++ [x], tr1, B1⟩, tbE a s4.next (s4.next + 1) mi nm ++ E, _, xs_on (Tr.sm (nm := (so "is_one_of")) (f := 778) w5 r0 (fun _ _ => by kernel_rfl) e6 <| Tr.v (app_m (w6.g 0 rfl)) <| Tr.v (mth_of (a := (so "table_constraint")) (f := 369) (w6.ext ha al an) (by kernel_rfl)) <| Tr.v (e7) <| Tr.v (app_e (v := (.d (tcD x))) (w7.g 0 rfl) hn sn) <| Tr.ret _) (by kernel_rfl), (by exact rfl), ⟨w8, ⟨w8.ext ha al an, lll al w8.n, an, w8.x_lt⟩, .nil, hB1, he, by rw [lap]; exact hd, .inl rfl⟩, by show 0 + tr1.length < 0 + (tr1.length + 1); rw [Nat.zero_add, Nat.zero_add]; exact nls _⟩
  | @cons x cr1 t2 A1 hx hA1 =>
   have hdt : dt = [] := ho.resolve_left nofun
   subst hdt
   have q1 : Stm t (.sg 44 :: (t2 ++ (A1 ++ (B ++ .sg 41 :: k :: rest)))) (u.objs m) := by
    have z : Stm t (.sg 44 :: (t2 ++ A1 ++ (B ++ .sg 41 :: k :: rest))) (u.objs m) := w.q
    rwa [lap] at z
   refine (tg_t (n := n + 5) (c := 44) (k := .sg 44) rfl w.x_lt q1).elim fun s5 e5 m5 => ?_
   have w5 := w.mv m5
   have q5 : ∃ k1 r1, t2 ++ (A1 ++ (B ++ .sg 41 :: k :: rest)) = k1 :: r1 ∧ inL tkL k1 = false := by
    cases hx
    exact ⟨_, _, rfl, rfl⟩
   refine q5.elim fun k1 z => z.elim fun r1 z => ?_
   have q5 := w5.q
   rw [z.1] at q5
   refine (one_of_c (n := n + 6) (b := false) (l := tkL) (k := k1) (r := r1) z.2 (by kernel_rfl) w5.x_lt q5).elim fun s6 e6 m6 => ?_
   rw [← z.1] at m6
   have w6 := w5.mv m6
   have w6' := w6.nw (.list (SL []))
   have r6 : Rd a m (nw s6 (.list (SL []))) := ⟨w6'.ext ha al an, lll al w6'.n, an, w6'.x_lt⟩
   refine (cl_c (n := n + 2) hx hA1 hB r6 w6'.q).elim fun s7 e7 m7 => ?_
   have w7 := w6'.mv m7
   have sn := map_snoc clD dc x
   have hn := dn_lt (g := clD) he (Nat.succ_le_succ hl)
   have w8 := w7.put 2 rfl (.list (((dc ++ [x]).map clD).map .d))
   exact .go s5 (ts_run (Tr.sm (nm := (so "take_sign")) (f := 799) w r0 (fun _ _ => by kernel_rfl) e5 <| Tr.ret _) (by kernel_rfl))
    ⟨⟨dc ++ [x], cr1, A1, [], tr, B⟩, tbE a s4.next (s4.next + 1) mi nm ++ E, _, xs_on (Tr.sm (nm := (so "is_one_of")) (f := 778) w5 r0 (fun _ _ => by kernel_rfl) e6 <| Tr.v (mkl (l := (SL [])) (lbe rfl)) <| Tr.v (ne_nil (b := false) (lof (w6'.g 1 rfl)) (w6'.g 0 rfl) rfl) <| Tr.v (app_m (w6'.g 2 rfl)) <| Tr.v (mth_of (a := (so "column_def")) (f := 348) (w6'.ext ha al an) (by kernel_rfl)) <| Tr.v (e7) <| Tr.v (app_e (v := (.d (clD x))) (w7.g 2 rfl) hn sn) <| Tr.ret _) (by kernel_rfl), (by exact rfl), ⟨w8.sub (List.sublist_cons_self _ _), ⟨w8.ext ha al an, lll al w8.n, an, w8.x_lt⟩, hA1, hB, by rw [lap]; exact he, hd, .inr rfl⟩, Nat.add_lt_add_right (nls _) _⟩
 ·exact nll (Nat.add_le_add hl hl2) (by decide)
 ·obtain ⟨dc, cr, A, dt, tr, B⟩ := z
  have e0 : cr = [] := j.2.1
  have e0' : tr = [] := j.2.2
  subst e0
  subst e0'
  have w := j.1.w
  have r := j.1.r
  have f := j.1.f
  have g := j.1.g
  cases f
  cases g
  have e1' : dc = c :: cls := (lan dc).symm.trans j.1.e
  have e2' : dt = tcs := (lan dt).symm.trans j.1.d
  subst e1'
  subst e2'
  refine (ng_t (n := n + 4) (c := 41) (k := .sg 41) (r := k :: rest) rfl w.x_lt w.q).elim fun s6 e6 m6 => ?_
  have w6 := w.mv m6
  refine (is_key_c (n := n + 5) (y := cp "WITHOUT") hf (by kernel_rfl) w6.x_lt w6.q).elim fun s7 e7 m7 => ?_
  have w7 := w6.mv m7
  refine (wr_c (n := n + 5) ht ((r.mv m6).mv m7) w7.q).elim fun x s8 e8 m8 h8 => ?_
  have w8 := w7.mv m8
  have w9 := w8.put 1 rfl .gone
  have w10 := w9.put 0 rfl .gone
  refine (new_194 (n := n + 6) (s := s8) (mi := mi) (nm := nm) (cls := c :: cls) (tcs := dt) (x := x) (w8.g 1 rfl) (w8.g 0 rfl) (w8.lt 1 rfl) (w8.lt 0 rfl) (Nat.succ_ne_self _)).elim fun s9 e9 h9 => ?_
  have w11 := w10.nt h9
  exact w11.rD x h8.2 (Tr.v (mth_of (a := (so "if_missing")) (f := 299) ha (by kernel_rfl)) <| Tr.v (e1) <| Tr.sm (nm := (so "need_name")) (f := 820) w1 r0 (fun _ _ => by kernel_rfl) e2 <| Tr.sm (nm := (so "need_sign")) (f := 813) w2 r0 (fun _ _ => by kernel_rfl) e3 <| Tr.v (mth_of (a := (so "column_def")) (f := 348) (w3.ext ha al an) (by kernel_rfl)) <| Tr.v (e4) <| Tr.v (mkl (l := (List.map MV.d (List.map clD [c]))) (lbe rfl)) <| Tr.v (mkl (l := (List.map MV.d [])) (lbe rfl)) <| Tr.x (e5) <| Tr.sm (nm := (so "need_sign")) (f := 813) w r0 (fun _ _ => by kernel_rfl) e6 <| Tr.sm (nm := (so "is_key")) (f := 764) w6 r0 (fun _ _ => by kernel_rfl) e7 <| Tr.v (mth_of (a := (so "written")) (f := 306) (w7.ext ha al an) (by kernel_rfl)) <| Tr.v (e8) <| Tr.v (e9) <| Tr.ret _) (by kernel_rfl)
end
section
variable {n m a : Nat} {s u : MSt} {t : List Nat} {k : Tk} {rest ts tr : List Tk} {xs : List Ix} {un mi ix ex : Bool} {nm tb : Na} {st : Sm} {k1 y : List Nat}
theorem nm_K (h : isNm k = false) : isK y k = false := by
 cases k with
 | key => cases h
 | free => cases h
 | _ => rfl
theorem cix_c (ht : t.length ≤ 900000) (hk : isNm k = false) (hx : CsT xs ts) (r : Rd a m s) (q : Stm t (ineT mi ++ (.free nm.1 :: tk "ON" :: .free tb.1 :: (ts ++ k :: rest))) (s.objs m)) :
  Cal (fun x => .d (nodeD x (.index nm tb xs un mi))) (cl (n + 7) 313 [.ref a, .d (.int 0), .d (.bool un)] s) m (Stm t (k :: rest)) s fun x => k = .en → x = rstripL t := by
 have r0 := r
 have ha := r.h
 have al := r.al
 have an := r.an
 have w0 := Fw.start r.xl q
 refine (if_c (n := n + 2) (b := mi) rfl r w0.q).elim fun s1 e1 m1 => ?_
 have w1 := w0.mv m1
 refine (nn_t (n := n + 4) w1.x_lt w1.q).elim fun s2 e2 m2 => ?_
 have w2 := w1.mv m2
 refine (nk_t (n := n + 3) (y := cp "ON") (k := tk "ON") (by kernel_rfl) (by kernel_rfl) w2.x_lt w2.q).elim fun s3 e3 m3 => ?_
 have w3 := w2.mv m3
 refine (nn_t (n := n + 4) w3.x_lt w3.q).elim fun s4 e4 m4 => ?_
 have w4 := w3.mv m4
 refine (ixs_c (n := n) hx ((((r.mv m1).mv m2).mv m3).mv m4) w4.q).elim fun s5 e5 m5 => ?_
 have w5 := w4.mv m5
 refine (is_key_c (n := n + 4) (y := cp "WHERE") (nm_K hk) (by kernel_rfl) w5.x_lt w5.q).elim fun s6 e6 m6 => ?_
 have w6 := w5.mv m6
 refine (wr_c (n := n + 4) ht ((((((r.mv m1).mv m2).mv m3).mv m4).mv m5).mv m6) w6.q).elim fun x s7 e7 m7 h7 => ?_
 have w7 := w6.mv m7
 refine (new_220 (n := n + 5) (s := s7) (nm := nm) (tb := tb) (xs := xs) (un := un) (mi := mi) (x := x)).elim fun s8 e8 h8 => ?_
 have w8 := w7.nt h8
 exact w8.rD x h7.2 (Tr.v (mth_of (a := (so "if_missing")) (f := 299) ha (by kernel_rfl)) <| Tr.v (e1) <| Tr.sm (nm := (so "need_name")) (f := 820) w1 r0 (fun _ _ => by kernel_rfl) e2 <| Tr.sm (nm := (so "need_key")) (f := 806) w2 r0 (fun _ _ => by kernel_rfl) e3 <| Tr.sm (nm := (so "need_name")) (f := 820) w3 r0 (fun _ _ => by kernel_rfl) e4 <| Tr.v (mth_of (a := (so "indexed_columns")) (f := 320) (w4.ext ha al an) (by kernel_rfl)) <| Tr.v (e5) <| Tr.sm (nm := (so "is_key")) (f := 764) w5 r0 (fun _ _ => by kernel_rfl) e6 <| Tr.v (mth_of (a := (so "written")) (f := 306) (w6.ext ha al an) (by kernel_rfl)) <| Tr.v (e7) <| Tr.v (e8) <| Tr.ret _) (by kernel_rfl)
theorem cr_c (ht : t.length ≤ 900000) (hk : isNm k = false) (hx : StT st (cp "CREATE") k1 tr) (r : Rd a m s) (q : Stm t (.key k1 :: (tr ++ k :: rest)) (s.objs m)) :
  Cal (fun x => .d (nodeD x st)) (cl (n + 9) 292 [.ref a, .d (.int 0)] s) m (Stm t (k :: rest)) s fun x => k = .en → x = rstripL t := by
 have r0 := r
 have ha := r.h
 have al := r.al
 have an := r.an
 have w0 := Fw.start r.xl q
 generalize h0 : cp "CREATE" = k0 at hx
 cases hx with
 | drop => exact absurd h0 (by decide +kernel)
 | @table mi nm cls tcs ta tb h h2 l l2 =>
  cases h with | @cons c cls t1 A hc hA =>
  refine (tk_t (n := n + 6) (y := cp "TABLE") (k := tk "TABLE") (by kernel_rfl) (by kernel_rfl) w0.x_lt w0.q).elim fun s1 e1 m1 => ?_
  have w1 := w0.mv m1
  have e : ineT mi ++ [.free nm.1, .sg 40] ++ (t1 ++ A ++ tb) ++ [.sg 41] ++ k :: rest = ineT mi ++ (.free nm.1 :: .sg 40 :: (t1 ++ (A ++ (tb ++ .sg 41 :: k :: rest)))) := by
   rw [lap, lap, lap, lap, lap]; rfl
  have q1 := w1.q
  rw [e] at q1
  refine (tb_c (n := n) ht (nm_K hk) hc hA h2 (Nat.le_of_succ_le_succ l) l2 (r.mv m1) q1).elim fun x s2 e2 m2 h2 => ?_
  have w2 := w1.mv m2
  exact w2.rD x h2 (Tr.sm (nm := (so "take_key")) (f := 792) w0 r0 (fun _ _ => by kernel_rfl) e1 <| Tr.v (mth_of (a := (so "create_table")) (f := 341) (w1.ext ha al an) (by kernel_rfl)) <| Tr.v (e2) <| Tr.ret _) (by kernel_rfl)
 | @index nm tb xs un mi ta h =>
  have e : ineT mi ++ [.free nm.1] ++ [tk "ON"] ++ [.free tb.1] ++ ta ++ k :: rest = ineT mi ++ (.free nm.1 :: tk "ON" :: .free tb.1 :: (ta ++ k :: rest)) := by
   rw [lap, lap, lap, lap]; rfl
  cases un with
  | false =>
   have e : uqT false ++ ineT mi ++ [.free nm.1] ++ [tk "ON"] ++ [.free tb.1] ++ ta ++ k :: rest = _ := e
   rw [e] at w0
   refine (tk_f (n := n + 6) (y := cp "TABLE") (k := tk "INDEX") (by kernel_rfl) (by kernel_rfl) w0.x_lt w0.q).elim fun s1 e1 m1 => ?_
   have w1 := w0.mv m1
   refine (tk_f (n := n + 6) (y := cp "UNIQUE") (k := tk "INDEX") (by kernel_rfl) (by kernel_rfl) w1.x_lt w1.q).elim fun s2 e2 m2 => ?_
   have w2 := w1.mv m2
   refine (nk_t (n := n + 5) (y := cp "INDEX") (k := tk "INDEX") (by kernel_rfl) (by kernel_rfl) w2.x_lt w2.q).elim fun s3 e3 m3 => ?_
   have w3 := w2.mv m3
   refine (cix_c (n := n + 1) (un := false) ht hk h (((r.mv m1).mv m2).mv m3) w3.q).elim fun x s4 e4 m4 h4 => ?_
   have w4 := w3.mv m4
   exact w4.rD x h4 (Tr.sm (nm := (so "take_key")) (f := 792) w0 r0 (fun _ _ => by kernel_rfl) e1 <| Tr.sm (nm := (so "take_key")) (f := 792) w1 r0 (fun _ _ => by kernel_rfl) e2 <| Tr.sm (nm := (so "need_key")) (f := 806) w2 r0 (fun _ _ => by kernel_rfl) e3 <| Tr.v (mth_of (a := (so "create_index")) (f := 313) (w3.ext ha al an) (by kernel_rfl)) <| Tr.v (e4) <| Tr.ret _) (by kernel_rfl)
  | true =>
   have e : uqT true ++ ineT mi ++ [.free nm.1] ++ [tk "ON"] ++ [.free tb.1] ++ ta ++ k :: rest = tk "INDEX" :: _ := congrArg (tk "INDEX" :: ·) e
   rw [e] at w0
   refine (tk_f (n := n + 6) (y := cp "TABLE") (k := tk "UNIQUE") (by kernel_rfl) (by kernel_rfl) w0.x_lt w0.q).elim fun s1 e1 m1 => ?_
   have w1 := w0.mv m1
   refine (tk_t (n := n + 6) (y := cp "UNIQUE") (k := tk "UNIQUE") (by kernel_rfl) (by kernel_rfl) w1.x_lt w1.q).elim fun s2 e2 m2 => ?_
   have w2 := w1.mv m2
   refine (nk_t (n := n + 5) (y := cp "INDEX") (k := tk "INDEX") (by kernel_rfl) (by kernel_rfl) w2.x_lt w2.q).elim fun s3 e3 m3 => ?_
   have w3 := w2.mv m3
   refine (cix_c (n := n + 1) (un := true) ht hk h (((r.mv m1).mv m2).mv m3) w3.q).elim fun x s4 e4 m4 h4 => ?_
   have w4 := w3.mv m4
   exact w4.rD x h4 (Tr.sm (nm := (so "take_key")) (f := 792) w0 r0 (fun _ _ => by kernel_rfl) e1 <| Tr.sm (nm := (so "take_key")) (f := 792) w1 r0 (fun _ _ => by kernel_rfl) e2 <| Tr.sm (nm := (so "need_key")) (f := 806) w2 r0 (fun _ _ => by kernel_rfl) e3 <| Tr.v (mth_of (a := (so "create_index")) (f := 313) (w3.ext ha al an) (by kernel_rfl)) <| Tr.v (e4) <| Tr.ret _) (by kernel_rfl)
theorem dr_c (r : Rd a m s) (q : Stm t (.key (drT ix) :: (ifT ex [tk "IF", tk "EXISTS"] ++ (.free nm.1 :: k :: rest))) (s.objs m)) : Gv (cl (n + 5) 285 [.ref a] s) (.d (nodeD [] (.drop ix nm ex))) m (Stm t (k :: rest)) s := by
 have r0 := r
 have ha := r.h
 have al := r.al
 have an := r.an
 have w0 := Fw.start r.xl q
 have hd : ∃ u, exs (cN KK (n + 4)) (fS 285) ((fB 285).take 2) (lk [(so "self", .ref a)]) s = .ok (.next, lk [(so "kind", dS (drKind ix)), (so "self", .ref a)]) u ∧ Fw m (Stm t (ifT ex [tk "IF", tk "EXISTS"] ++ (.free nm.1 :: k :: rest))) s [] u := by
  cases ix with
  | true =>
   refine w0.go (tk_t (n := n + 2) (y := cp "INDEX") (k := tk "INDEX") (by kernel_rfl) (by kernel_rfl) w0.x_lt w0.q) fun s1 e1 w1 => ?_
   exact ⟨s1, xs_on (Tr.sm (nm := (so "take_key")) (f := 792) w0 r0 (fun _ _ => by kernel_rfl) e1 <| Tr.v (eqs_f (x := (cp "index")) (y := (cp "table")) (by decide)) <| Tr.ret _) (by kernel_rfl), w1⟩
  | false =>
   refine w0.go (tk_f (n := n + 2) (y := cp "INDEX") (k := tk "TABLE") (by kernel_rfl) (by kernel_rfl) w0.x_lt w0.q) fun s1 e1 w1 => ?_
   refine w1.go (nk_t (n := n + 1) (y := cp "TABLE") (k := tk "TABLE") (by kernel_rfl) (by kernel_rfl) w1.x_lt w1.q) fun s2 e2 w2 => ?_
   exact ⟨s2, xs_on (Tr.sm (nm := (so "take_key")) (f := 792) w0 r0 (fun _ _ => by kernel_rfl) e1 <| Tr.v (eqs_t (x := (cp "table")) (y := (cp "table")) rfl) <| Tr.sm (nm := (so "need_key")) (f := 806) w1 r0 (fun _ _ => by kernel_rfl) e2 <| Tr.ret _) (by kernel_rfl), w2⟩
 refine hd.elim fun s1 hd => ?_
 have e1 := hd.1
 have w1 := hd.2
 cases ex with
 | false =>
  refine w1.go (tk_f (n := n + 2) (y := cp "IF") (k := .free nm.1) rfl (by kernel_rfl) w1.x_lt w1.q) fun s2 e2 w2 => ?_
  refine w2.go (nn_t (n := n + 2) w2.x_lt w2.q) fun s3 e3 w3 => ?_
  refine (new_246 (n := n + 3) (s := s3) (ix := ix) (ex := false) (nm := nm) (x := [])).elim fun s4 e4 h4 => ?_
  have w4 := w3.nt h4
  exact w4.gv (.xv (xv_then 2 e1 (xv_run (Tr.sm (nm := (so "take_key")) (f := 792) w1 r0 (fun _ _ => by kernel_rfl) e2 <| Tr.sm (nm := (so "need_name")) (f := 820) w2 r0 (fun _ _ => by kernel_rfl) e3 <| Tr.v (e4) <| Tr.ret _) (by kernel_rfl))))
 | true =>
  refine w1.go (tk_t (n := n + 2) (y := cp "IF") (k := tk "IF") (by kernel_rfl) (by kernel_rfl) w1.x_lt w1.q) fun s2 e2 w2 => ?_
  refine w2.go (nk_t (n := n + 1) (y := cp "EXISTS") (k := tk "EXISTS") (by kernel_rfl) (by kernel_rfl) w2.x_lt w2.q) fun s5 e5 w5 => ?_
  refine w5.go (nn_t (n := n + 2) w5.x_lt w5.q) fun s3 e3 w3 => ?_
  refine (new_246 (n := n + 3) (s := s3) (ix := ix) (ex := true) (nm := nm) (x := [])).elim fun s4 e4 h4 => ?_
  have w4 := w3.nt h4
  exact w4.gv (.xv (xv_then 2 e1 (xv_run (Tr.sm (nm := (so "take_key")) (f := 792) w1 r0 (fun _ _ => by kernel_rfl) e2 <| Tr.sm (nm := (so "need_key")) (f := 806) w2 r0 (fun _ _ => by kernel_rfl) e5 <| Tr.sm (nm := (so "need_name")) (f := 820) w5 r0 (fun _ _ => by kernel_rfl) e3 <| Tr.v (e4) <| Tr.ret _) (by kernel_rfl))))
end
section
variable {n m a : Nat} {s u : MSt} {t : List Nat} {k : Tk} {rest : List Tk} {un ix : Bool}
theorem tb_x (hk : isNm k = false) (r : Rd a m s) (q : Stm t (k :: rest) (s.objs m)) : cl (n + 5) 341 [.ref a, .d (.int 0)] s = .exc := by
 have r0 := r
 have ha := r.h
 have al := r.al
 have an := r.an
 have w0 := Fw.start r.xl q
 refine w0.go (if_c (n := n) (b := false) (toks := k :: rest) (nm_K hk) r w0.q) fun s1 e1 w1 => ?_
 have e2 := nn_x (n := n + 1) (by unfold isF; rw [hk]; rfl) w1.x_lt w1.q
 exact Ends.exc (Tr.v (mth_of (a := (so "if_missing")) (f := 299) ha (by kernel_rfl)) <| Tr.v (e1) <| Tr.v (fld_of (a := (so "stream")) (v := (.ref (m))) (w1.ext ha al an) (by kernel_rfl)) <| Tr.v (st_mth (nm := (so "need_name")) (f := 820) w1.q (fun _ _ => by kernel_rfl)) <| Tr.exv (e2)) (by kernel_rfl)
theorem cix_x (hk : isNm k = false) (r : Rd a m s) (q : Stm t (k :: rest) (s.objs m)) : cl (n + 5) 313 [.ref a, .d (.int 0), .d (.bool un)] s = .exc := by
 have r0 := r
 have ha := r.h
 have al := r.al
 have an := r.an
 have w0 := Fw.start r.xl q
 refine w0.go (if_c (n := n) (b := false) (toks := k :: rest) (nm_K hk) r w0.q) fun s1 e1 w1 => ?_
 have e2 := nn_x (n := n + 1) (by unfold isF; rw [hk]; rfl) w1.x_lt w1.q
 exact Ends.exc (Tr.v (mth_of (a := (so "if_missing")) (f := 299) ha (by kernel_rfl)) <| Tr.v (e1) <| Tr.v (fld_of (a := (so "stream")) (v := (.ref (m))) (w1.ext ha al an) (by kernel_rfl)) <| Tr.v (st_mth (nm := (so "need_name")) (f := 820) w1.q (fun _ _ => by kernel_rfl)) <| Tr.exv (e2)) (by kernel_rfl)
inductive BadC (k : Tk) (rest : List Tk) : List Tk → Prop
 | e : BadC k rest (k :: rest)
 | t : BadC k rest (tk "TABLE" :: k :: rest)
 | i (un : Bool) : BadC k rest (.key (uqK un) :: k :: rest)
theorem cr_x {ts : List Tk} (hk : isNm k = false) (h : BadC k rest ts) (r : Rd a m s) (q : Stm t ts (s.objs m)) : cl (n + 6) 292 [.ref a, .d (.int 0)] s = .exc := by
 have r0 := r
 have ha := r.h
 have al := r.al
 have an := r.an
 have w0 := Fw.start r.xl q
 cases h with
 | e =>
  refine w0.go (tk_f (n := n + 3) (y := cp "TABLE") (k := k) (nm_K hk) (by kernel_rfl) w0.x_lt w0.q) fun s1 e1 w1 => ?_
  refine w1.go (tk_f (n := n + 3) (y := cp "UNIQUE") (k := k) (nm_K hk) (by kernel_rfl) w1.x_lt w1.q) fun s2 e2 w2 => ?_
  have e3 := nk_x (n := n + 1) (y := cp "INDEX") (nm_K hk) (by kernel_rfl) (lbe rfl) w2.x_lt w2.q
  exact Ends.exc (Tr.sm (nm := (so "take_key")) (f := 792) w0 r0 (fun _ _ => by kernel_rfl) e1 <| Tr.sm (nm := (so "take_key")) (f := 792) w1 r0 (fun _ _ => by kernel_rfl) e2 <| Tr.v (fld_of (a := (so "stream")) (v := (.ref (m))) (w2.ext ha al an) (by kernel_rfl)) <| Tr.v (st_mth (nm := (so "need_key")) (f := 806) w2.q (fun _ _ => by kernel_rfl)) <| Tr.exv (e3)) (by kernel_rfl)
 | t =>
  refine (tk_t (n := n + 3) (y := cp "TABLE") (k := tk "TABLE") (by kernel_rfl) (by kernel_rfl) w0.x_lt w0.q).elim fun s1 e1 m1 => ?_
  have w1 := w0.mv m1
  have e2 := tb_x (n := n) hk (r.mv m1) w1.q
  exact Ends.exc (Tr.sm (nm := (so "take_key")) (f := 792) w0 r0 (fun _ _ => by kernel_rfl) e1 <| Tr.v (mth_of (a := (so "create_table")) (f := 341) (w1.ext ha al an) (by kernel_rfl)) <| Tr.exv (e2)) (by kernel_rfl)
 | i un =>
  cases un with
  | false =>
   refine (tk_f (n := n + 3) (y := cp "TABLE") (k := tk "INDEX") (by kernel_rfl) (by kernel_rfl) w0.x_lt w0.q).elim fun s1 e1 m1 => ?_
   have w1 := w0.mv m1
   refine (tk_f (n := n + 3) (y := cp "UNIQUE") (k := tk "INDEX") (by kernel_rfl) (by kernel_rfl) w1.x_lt w1.q).elim fun s2 e2 m2 => ?_
   have w2 := w1.mv m2
   refine (nk_t (n := n + 2) (y := cp "INDEX") (k := tk "INDEX") (by kernel_rfl) (by kernel_rfl) w2.x_lt w2.q).elim fun s3 e3 m3 => ?_
   have w3 := w2.mv m3
   have e4 := cix_x (n := n) (un := false) hk (((r.mv m1).mv m2).mv m3) w3.q
   exact Ends.exc (Tr.sm (nm := (so "take_key")) (f := 792) w0 r0 (fun _ _ => by kernel_rfl) e1 <| Tr.sm (nm := (so "take_key")) (f := 792) w1 r0 (fun _ _ => by kernel_rfl) e2 <| Tr.sm (nm := (so "need_key")) (f := 806) w2 r0 (fun _ _ => by kernel_rfl) e3 <| Tr.v (mth_of (a := (so "create_index")) (f := 313) (w3.ext ha al an) (by kernel_rfl)) <| Tr.exv (e4)) (by kernel_rfl)
  | true =>
   refine w0.go (tk_f (n := n + 3) (y := cp "TABLE") (k := tk "UNIQUE") (by kernel_rfl) (by kernel_rfl) w0.x_lt w0.q) fun s1 e1 w1 => ?_
   refine w1.go (tk_t (n := n + 3) (y := cp "UNIQUE") (k := tk "UNIQUE") (by kernel_rfl) (by kernel_rfl) w1.x_lt w1.q) fun s2 e2 w2 => ?_
   have e3 := nk_x (n := n + 1) (y := cp "INDEX") (nm_K hk) (by kernel_rfl) (lbe rfl) w2.x_lt w2.q
   exact Ends.exc (Tr.sm (nm := (so "take_key")) (f := 792) w0 r0 (fun _ _ => by kernel_rfl) e1 <| Tr.sm (nm := (so "take_key")) (f := 792) w1 r0 (fun _ _ => by kernel_rfl) e2 <| Tr.v (fld_of (a := (so "stream")) (v := (.ref (m))) (w2.ext ha al an) (by kernel_rfl)) <| Tr.v (st_mth (nm := (so "need_key")) (f := 806) w2.q (fun _ _ => by kernel_rfl)) <| Tr.exv (e3)) (by kernel_rfl)
inductive BadD (k : Tk) (rest : List Tk) : List Tk → Prop
 | e : BadD k rest (k :: rest)
 | i (ix : Bool) : BadD k rest (.key (drT ix) :: k :: rest)
theorem dr_x {ts : List Tk} (hk : isNm k = false) (h : BadD k rest ts) (r : Rd a m s) (q : Stm t ts (s.objs m)) : cl (n + 5) 285 [.ref a] s = .exc := by
 have r0 := r
 have ha := r.h
 have al := r.al
 have an := r.an
 have w0 := Fw.start r.xl q
 cases h with
 | e =>
  refine w0.go (tk_f (n := n + 2) (y := cp "INDEX") (k := k) (nm_K hk) (by kernel_rfl) w0.x_lt w0.q) fun s1 e1 w1 => ?_
  have e3 := nk_x (n := n) (y := cp "TABLE") (nm_K hk) (by kernel_rfl) (lbe rfl) w1.x_lt w1.q
  exact Ends.exc (Tr.sm (nm := (so "take_key")) (f := 792) w0 r0 (fun _ _ => by kernel_rfl) e1 <| Tr.v (eqs_t (x := (cp "table")) (y := (cp "table")) rfl) <| Tr.v (fld_of (a := (so "stream")) (v := (.ref (m))) (w1.ext ha al an) (by kernel_rfl)) <| Tr.v (st_mth (nm := (so "need_key")) (f := 806) w1.q (fun _ _ => by kernel_rfl)) <| Tr.exv (e3)) (by kernel_rfl)
 | i ix =>
  cases ix with
  | true =>
   refine w0.go (tk_t (n := n + 2) (y := cp "INDEX") (k := tk "INDEX") (by kernel_rfl) (by kernel_rfl) w0.x_lt w0.q) fun s1 e1 w1 => ?_
   refine w1.go (tk_f (n := n + 2) (y := cp "IF") (k := k) (nm_K hk) (by kernel_rfl) w1.x_lt w1.q) fun s2 e2 w2 => ?_
   have e3 := nn_x (n := n + 1) (by unfold isF; rw [hk]; rfl) w2.x_lt w2.q
   exact Ends.exc (Tr.sm (nm := (so "take_key")) (f := 792) w0 r0 (fun _ _ => by kernel_rfl) e1 <| Tr.v (eqs_f (x := (cp "index")) (y := (cp "table")) (by decide)) <| Tr.sm (nm := (so "take_key")) (f := 792) w1 r0 (fun _ _ => by kernel_rfl) e2 <| Tr.v (fld_of (a := (so "stream")) (v := (.ref (m))) (w2.ext ha al an) (by kernel_rfl)) <| Tr.v (st_mth (nm := (so "need_name")) (f := 820) w2.q (fun _ _ => by kernel_rfl)) <| Tr.exv (e3)) (by kernel_rfl)
  | false =>
   refine w0.go (tk_f (n := n + 2) (y := cp "INDEX") (k := tk "TABLE") (by kernel_rfl) (by kernel_rfl) w0.x_lt w0.q) fun s1 e1 w1 => ?_
   refine w1.go (nk_t (n := n + 1) (y := cp "TABLE") (k := tk "TABLE") (by kernel_rfl) (by kernel_rfl) w1.x_lt w1.q) fun s4 e4 w4 => ?_
   refine w4.go (tk_f (n := n + 2) (y := cp "IF") (k := k) (nm_K hk) (by kernel_rfl) w4.x_lt w4.q) fun s2 e2 w2 => ?_
   have e3 := nn_x (n := n + 1) (by unfold isF; rw [hk]; rfl) w2.x_lt w2.q
   exact Ends.exc (Tr.sm (nm := (so "take_key")) (f := 792) w0 r0 (fun _ _ => by kernel_rfl) e1 <| Tr.v (eqs_t (x := (cp "table")) (y := (cp "table")) rfl) <| Tr.sm (nm := (so "need_key")) (f := 806) w1 r0 (fun _ _ => by kernel_rfl) e4 <| Tr.sm (nm := (so "take_key")) (f := 792) w4 r0 (fun _ _ => by kernel_rfl) e2 <| Tr.v (fld_of (a := (so "stream")) (v := (.ref (m))) (w2.ext ha al an) (by kernel_rfl)) <| Tr.v (st_mth (nm := (so "need_name")) (f := 820) w2.q (fun _ _ => by kernel_rfl)) <| Tr.exv (e3)) (by kernel_rfl)
end
noncomputable section
noncomputable def trB : Stmt → List Stmt
 | .Try b _ _ _ _ => b
 | _ => []
noncomputable def trH : Stmt → List ExceptHandler
 | .Try _ h _ _ _ => h
 | _ => []
noncomputable def trO : Stmt → Pos
 | .Try _ _ _ _ p => p
 | _ => default
end
section
variable {n m a : Nat} {s s' : MSt} {t : List Nat} {k : Tk} {rest all tr : List Tk} {st : Stmt} {sc : Scope} {E : EL} {x : Str} {k0 k1 : List Nat} {z : Sm}
theorem x_try0 {c : Cfg} {hs : List ExceptHandler} (b : List Stmt) (p : Pos) (h : handName hs = some x) (hp : isPe c (evName c.T sc x fun _ => none) = true) (le : LEnv) : ex c sc (.Try b hs [] [] p) le = catchM true le (exs c sc b le) := by
 show (match handName hs with | some x => catchM (isPe c (evName c.T sc x fun _ => none)) le (exs c sc b le) | none => M.bad) = _
 rw [h]; dsimp only; rw [hp]
theorem x_try (le : LEnv) : ex (cN KK n) (fS 972) (stAt 972 0) le = catchM true le (exs (cN KK n) (fS 972) (trB (stAt 972 0)) le) := by
 have e : stAt 972 0 = .Try (trB (stAt 972 0)) (trH (stAt 972 0)) [] [] (trO (stAt 972 0)) := by kernel_rfl
 exact (congrArg (fun st => ex (cN KK n) (fS 972) st le) e).trans (x_try0 (x := so "ParseError") _ _ (by kernel_rfl) (by kernel_rfl) le)
theorem try_ok {p : Fl × LEnv} {le : LEnv} (h : exs (cN KK n) (fS 972) (trB (stAt 972 0)) le s = .ok p s') : ex (cN KK n) (fS 972) (stAt 972 0) le s = .ok p s' := by
 rw [x_try]; unfold catchM; rw [h]
theorem try_x {le : LEnv} (h : exs (cN KK n) (fS 972) (trB (stAt 972 0)) le s = .exc) : ex (cN KK n) (fS 972) (stAt 972 0) le s = .ok (.ret (.d .none), le) ⟨s.next, fun _ => .gone⟩ := by
 rw [x_try]; unfold catchM; rw [h]; rfl
theorem ne_cons {ts : List Tk} (h : k ≠ .en) (ih : ∀ k ∈ ts, k ≠ .en) : ∀ k' ∈ k :: ts, k' ≠ .en := fun k' hk => (lmc hk).elim (fun e => e ▸ h) (ih k')
theorem lx_en (h : Lx t all) : ∀ k ∈ all, k ≠ .en := by
 induction h with
 | nil => nofun
 | blank _ _ ih => exact ih
 | line _ ih => exact ih
 | note _ ih => exact ih
 | bare hb _ _ ih => exact ne_cons (fun e => by rw [e] at hb; unfold btB at hb; rw [Bool.and_false] at hb; cases hb) ih
 | brack _ _ ih => exact ne_cons nofun ih
 | quote _ _ _ ih => exact ne_cons nofun ih
 | num _ _ _ ih => exact ne_cons nofun ih
 | sign _ _ _ ih => exact ne_cons nofun ih
theorem tw_en {w : Wd} (h : TW k w) (e : w.kind = cp "end") : k = .en := by
 cases k with
 | en => rfl
 | key => exact absurd (h.1.symm.trans e) (by decide)
 | free => exact absurd (h.1.symm.trans e) (by decide)
 | sg => exact absurd (h.1.symm.trans e) (by decide)
 | nu => exact absurd (h.1.symm.trans e) (by decide)
theorem init_722 (h0 : 0 < s.next) (ht : t.length ≤ 800000) (hx : Lx t all) (hm : m < s.next) (h : s.objs m = .inst 837 []) : Fr (cl (n + 6) 722 [.ref m, dS t] s) (.d .none) m (Stm t (all ++ [.en])) s [] := by
 have w0 := Fw.start (Q := Is (.inst 837 [])) hm h
 have w1 := w0.px (Q' := Is (.inst 837 [(so "text", dS t)])) rfl
 cases words_run (n := n) (u := pt s m (.inst 837 [(so "text", dS t)])) h0 (nlt ht (by decide)) hx with | mk ws p s2 e2 h2 al hp hl =>
 have w2 := w1.nt h2
 have w3 := w2.px (Q' := Is (.inst 837 [(so "text", dS t), (so "words", .d (.lst ((ws ++ [endW p]).map wdD)))])) rfl
 have w4 := w3.px (Q' := Is (.inst 837 [(so "text", dS t), (so "words", .d (.lst ((ws ++ [endW p]).map wdD))), (so "at", .d (.int 0))])) rfl
 have w5 := w4.px (Q' := Is (stm t (ws ++ [endW p]) 0)) rfl
 refine ⟨_, Ends.toK (.tr (Tr.v (sa_of (a := (so "text")) (v := (.d (.str (t)))) (o := (MObj.inst 837 [(so "text", dS t)])) w0.q (by kernel_rfl) rfl (by kernel_rfl)) <| Tr.v (e2) <| Tr.v (sa_of (a := (so "words")) (v := (.d (.lst (List.map wdD (ws ++ [endW p]))))) (o := (MObj.inst 837 [(so "text", dS t), (so "words", MV.d (D.lst (List.map wdD (ws ++ [endW p]))))])) w2.q (by kernel_rfl) rfl (by kernel_rfl)) <| Tr.v (sa_of (a := (so "at")) (v := (.d (.int 0))) (o := (MObj.inst 837 [(so "text", dS t), (so "words", MV.d (D.lst (List.map wdD (ws ++ [endW p])))), (so "at", MV.d (D.int 0))])) w3.q (by kernel_rfl) rfl (by kernel_rfl)) <| Tr.v (sa_of (a := (so "depth")) (v := (.d (.int 0))) (o := (stm t (ws ++ [endW p]) 0)) w4.q (by kernel_rfl) rfl (by kernel_rfl)) <| Tr.ret _) (by kernel_rfl)), w5.imp fun e => ⟨ws ++ [endW p], 0, e, All2.append (m := ws) (l' := [Tk.en]) (m' := [endW p]) (.cons (show TW Tk.en (endW p) from rfl) .nil) all al, ?_, fun w hw hk => ?_⟩⟩
 ·rw [lla]; exact Nat.add_le_add (nlt hl ht) (by decide : 1 ≤ 100000)
 ·refine (List.mem_append.mp hw).elim (fun h => ?_) fun h => by rw [List.mem_singleton.mp h]; exact hp
  refine (List.mem_iff_getElem?.mp h).elim fun i h => (All2.at_ _ al h).elim fun k z => ?_
  exact absurd (tw_en z.2 hk) (lx_en hx k (List.mem_of_getElem? z.1))
theorem init_278 (hm : a < s.next) (h : s.objs a = .inst 372 []) : Fr (cl (n + 1) 278 [.ref a, .ref m, .d .none] s) (.d .none) a (Is (rdr m)) s [] := by
 have w0 := Fw.start (Q := Is (.inst 372 [])) hm h
 have w1 := w0.px (Q' := Is (.inst 372 [(so "stream", .ref m)])) rfl
 have w2 := w1.px (Q' := Is (rdr m)) rfl
 exact ⟨_, Ends.toK (.tr (Tr.v (sa_of (a := (so "stream")) (v := (.ref (m))) (o := (MObj.inst 372 [(so "stream", MV.ref m)])) w0.q (by kernel_rfl) rfl (by kernel_rfl)) <| Tr.v (sa_of (a := (so "expressions")) (v := (.d .none)) (o := (rdr m)) w1.q (by kernel_rfl) rfl (by kernel_rfl)) <| Tr.ret _) (by kernel_rfl)), w2⟩
structure Sta (n : Nat) (s : MSt) (t : List Nat) (toks : List Tk) (a : Nat) (s1 s2 : MSt) : Prop where
 e1 : callGlob (cN KK (n + 6)) 837 [dS t] s = .ok (.ref s.next) s1
 e2 : callGlob (cN KK (n + 6)) 372 [.ref s.next, .d .none] s1 = .ok (.ref a) s2
 w1 : Fw s.next (Stm t toks) s1 [] s1
 w2 : Fw s.next (Stm t toks) s1 [(a, rdr s.next)] s2
 k : ∀ k, k < s.next → s1.objs k = s.objs k
theorem sta_c (h0 : 0 < s.next) (ht : t.length ≤ 800000) (hx : Lx t all) : ∃ a s1 s2, Sta n s t (all ++ [.en]) a s1 s2 := by
 refine (init_722 (n := n) (t := t) (s := nw s (.inst 837 [])) (Nat.succ_pos _) ht hx (nls _) (uS ..)).elim fun s1 e1 w1 => ?_
 have hn : s.next < s1.next := lll (nls _) w1.n
 have y := Fw.start (s := s1) hn w1.q
 have y1 := y.nw (.inst 372 [])
 refine (init_278 (n := n + 5) (m := s.next) (s := nw s1 (.inst 372 [])) (nls _) (uS ..)).elim fun s2 e2 w2 => ?_
 have kk : ∀ k, k < s1.next → s2.objs k = s1.objs k := fun k h => (w2.k k (Nat.lt_succ_of_lt h) (nnl h)).trans (uN (nnl h))
 exact ⟨s1.next, s1, s2, new_i (by kernel_rfl) (by kernel_rfl) e1, new_i (by kernel_rfl) (by kernel_rfl) e2, y,
  ⟨⟨Nat.le_of_succ_le w2.n, fun k h _ => kk k h, by have z := w1.q; rw [← kk _ hn] at z; exact z⟩, hn, fun p hp => (List.mem_singleton.mp hp) ▸ ⟨w2.q, nlr _, w2.n⟩, .cons (fun _ h => nomatch h) .nil⟩,
  fun k h => (w1.k k (Nat.lt_succ_of_lt h) (nnl h)).trans (uN (nnl h))⟩
end
section
variable {n m a : Nat} {s s1 s2 s' : MSt} {t : List Nat} {k : Tk} {rest all tr toks ts : List Tk} {k0 k1 : List Nat} {st : Sm} {b : Bool}
theorem Sta.r (z : Sta n s t toks a s1 s2) : Rd a s.next s2 := ⟨z.w2.g 0 rfl, z.w2.lt 0 rfl, (nnl (lll z.w1.xl (z.w2.own 0 rfl))).symm, z.w2.x_lt⟩
noncomputable def rdE (d : D) (a m : Nat) (t : List Nat) : EL := [(so "node", .d d), (so "reader", .ref a), (so "stream", .ref m), (so "text", dS t)]
inductive Rt (n : Nat) (s : MSt) (t : List Nat) (st : Sm) (k : Tk) (rest : List Tk) (a : Nat) (s1 : MSt) : Prop
 | mk (x : List Nat) (u : MSt) (e : k = .en → x = rstripL t) (h : exs (cN KK (n + 9)) (fS 972) (trB (stAt 972 0)) (lk [(so "text", dS t)]) s = .ok (.next, lk (rdE (nodeD x st) a s.next t)) u) (w : Fw s.next (Stm t (k :: rest)) s1 [(a, rdr s.next)] u)
theorem nd_i (x : List Nat) (st : Sm) : ∃ c fs, nodeD x st = .inst c fs := by
 cases st with
 | table => exact ⟨_, _, rfl⟩
 | index => exact ⟨_, _, rfl⟩
 | drop => exact ⟨_, _, rfl⟩
theorem rt_cr (h0 : 0 < s.next) (ht : t.length ≤ 900000) (hk : isNm k = false) (hx : StT st (cp "CREATE") k1 tr) (z : Sta (n + 3) s t (tk "CREATE" :: .key k1 :: (tr ++ k :: rest)) a s1 s2) : Rt n s t st k rest a s1 := by
 have w := Fw.start (Q := Is (s.objs 0)) h0 rfl
 have e1 := z.e1
 have e2 := z.e2
 have w1 := z.w1
 have w2 := z.w2
 refine (tk_t (n := n + 7) (y := cp "CREATE") (k := tk "CREATE") (by kernel_rfl) (by kernel_rfl) w2.x_lt w2.q).elim fun s3 e3 m3 => ?_
 have w3 := w2.mv m3
 refine (cr_c (n := n) ht hk hx (z.r.mv m3) w3.q).elim fun x s4 e4 m4 h4 => ?_
 have w4 := w3.mv m4
 refine (nd_i x st).elim fun c y => y.elim fun fs y => ?_
 rw [y] at e4
 refine ⟨x, s4, h4, ?_, w4⟩
 rw [y]
 exact xs_on (Tr.v (e1) <| Tr.v (e2) <| Tr.v (st_mth (nm := (so "take_key")) (f := 792) w2.q (fun _ _ => by kernel_rfl)) <| Tr.v (e3) <| Tr.v (mth_of (a := (so "create")) (f := 292) (w3.g 0 rfl) (by kernel_rfl)) <| Tr.v (e4) <| Tr.ret _) (by kernel_rfl)
theorem rt_dr {ix ex : Bool} {nm : Na} (h0 : 0 < s.next) (z : Sta (n + 3) s t (tk "DROP" :: .key (drT ix) :: (ifT ex [tk "IF", tk "EXISTS"] ++ (.free nm.1 :: k :: rest))) a s1 s2) : Rt n s t (.drop ix nm ex) k rest a s1 := by
 have w := Fw.start (Q := Is (s.objs 0)) h0 rfl
 have e1 := z.e1
 have e2 := z.e2
 have w1 := z.w1
 have w2 := z.w2
 refine (tk_f (n := n + 7) (y := cp "CREATE") (k := tk "DROP") (by kernel_rfl) (by kernel_rfl) w2.x_lt w2.q).elim fun s3 e3 m3 => ?_
 have w3 := w2.mv m3
 refine (nk_t (n := n + 6) (y := cp "DROP") (k := tk "DROP") (by kernel_rfl) (by kernel_rfl) w3.x_lt w3.q).elim fun s4 e4 m4 => ?_
 have w4 := w3.mv m4
 refine (dr_c (n := n + 4) ((z.r.mv m3).mv m4) w4.q).elim fun s5 e5 m5 => ?_
 have w5 := w4.mv m5
 refine ⟨rstripL t, s5, fun _ => rfl, ?_, w5⟩
 have e : exs (cN KK (n + 9)) (fS 972) (trB (stAt 972 0)) (lk [(so "text", dS t)]) s = .ok (.next, lk ((so "node", .d (nodeD [] (.drop ix nm ex))) :: (so "node", .d .none) :: [(so "reader", .ref a), (so "stream", .ref s.next), (so "text", dS t)])) s5 := xs_on (Tr.v (e1) <| Tr.v (e2) <| Tr.v (st_mth (nm := (so "take_key")) (f := 792) w2.q (fun _ _ => by kernel_rfl)) <| Tr.v (e3) <| Tr.v (st_mth (nm := (so "need_key")) (f := 806) w3.q (fun _ _ => by kernel_rfl)) <| Tr.v (e4) <| Tr.v (mth_of (a := (so "drop")) (f := 285) (w4.g 0 rfl) (by kernel_rfl)) <| Tr.v (e5) <| Tr.ret _) (by kernel_rfl)
 rw [lk_dup] at e
 exact e
theorem rd_end (h0 : 0 < s.next) (hb : ∀ w, TW k w → decide (w.kind = cp "end") = b) (z : Sta (n + 3) s t toks a s1 s2) (h : Rt n s t st k rest a s1) : ∃ x, (k = .en → x = rstripL t) ∧ Qt (cl (n + 10) 972 [dS t] s) (.d (cond b (nodeD x st) .none)) s := by
 cases h with | mk x u e h w1 =>
 have w := Fw.start (Q := Is (s.objs 0)) h0 rfl
 have e1 := try_ok h
 refine (over_c (n := n + 8) (b := b) w1.x_lt w1.q hb).elim fun s2 e2 m2 => ?_
 have w2 := w1.mv m2
 have q : ∀ d, Ends 972 (n + 9) [dS t] s (.d d) s2 → Qt (cl (n + 10) 972 [dS t] s) (.d d) s := fun d e => ⟨_, e.toD, ⟨nlt (nol w1.xl) w2.n, fun i h => (above_lt h).trans ((w2.k i (Nat.lt_trans h w1.xl) (nnl h)).trans (z.k i h))⟩⟩
 refine ⟨x, e, ?_⟩
 cases b with
 | true => exact q _ (.tr (Tr.x (e1) <| Tr.v (st_mth (nm := (so "is_over")) (f := 757) w1.q (fun _ _ => by kernel_rfl)) <| Tr.v (e2) <| Tr.ret _) (by kernel_rfl))
 | false => exact q _ (.tr (Tr.x (e1) <| Tr.v (st_mth (nm := (so "is_over")) (f := 757) w1.q (fun _ _ => by kernel_rfl)) <| Tr.v (e2) <| Tr.ret _) (by kernel_rfl))
end
inductive BadT : List Tk → Prop
 | c {ts} (h : BadC .en [] (ts ++ [.en])) : BadT (tk "CREATE" :: ts)
 | d {ts} (h : BadD .en [] (ts ++ [.en])) : BadT (tk "DROP" :: ts)
 | w {k ts} (h : isK (cp "CREATE") k = false) (h2 : isK (cp "DROP") k = false) : BadT (k :: ts)
section
variable {n c : Nat} {s : MSt} {t : List Nat} {k : Tk} {rest tr ts : List Tk} {k0 k1 : List Nat} {st : Sm} {b : Bool}
theorem st_two (h : StT st k0 k1 tr) : k0 = cp "CREATE" ∨ ∃ ix nm ex, st = .drop ix nm ex ∧ k0 = cp "DROP" ∧ k1 = drT ix ∧ tr = ifT ex [tk "IF", tk "EXISTS"] ++ [.free nm.1] := by
 cases h with
 | table => exact .inl rfl
 | index => exact .inl rfl
 | drop => exact .inr ⟨_, _, _, rfl, rfl, rfl, rfl⟩
theorem read_go (h0 : 0 < s.next) (ht : t.length ≤ 800000) (hk : isNm k = false) (hb : ∀ w, TW k w → decide (w.kind = cp "end") = b) (hx : StT st k0 k1 tr) {all : List Tk} (hl : Lx t all) (e : all ++ [.en] = .key k0 :: .key k1 :: (tr ++ k :: rest)) : ∃ x, (k = .en → x = rstripL t) ∧ Qt (cl (n + 10) 972 [dS t] s) (.d (cond b (nodeD x st) .none)) s := by
 refine (sta_c (n := n + 3) h0 ht hl).elim fun a z => z.elim fun s1 z => z.elim fun s2 z => ?_
 rw [e] at z
 refine rd_end (rest := rest) h0 hb z ((st_two hx).elim (fun e => ?_) fun y => ?_)
 ·subst e
  exact rt_cr h0 (nlt ht (by decide)) hk hx z
 ·obtain ⟨ix, nm, ex, rfl, rfl, rfl, rfl⟩ := y
  rw [lap] at z
  exact rt_dr h0 z
theorem read_ok (h0 : 0 < s.next) (ht : t.length ≤ 800000) (hx : StT st k0 k1 tr) (hl : Lx t (.key k0 :: .key k1 :: tr)) : Qt (cl (n + 10) 972 [dS t] s) (.d (nodeD (rstripL t) st)) s :=
 (read_go (n := n) (k := .en) (b := true) h0 ht rfl (fun _ h => decide_eq_true h) hx hl rfl).elim fun _ y => y.1 rfl ▸ y.2
theorem read_more (h0 : 0 < s.next) (ht : t.length ≤ 800000) (hx : StT st k0 k1 tr) (hl : Lx t (.key k0 :: .key k1 :: tr ++ [.sg c])) : Qt (cl (n + 10) 972 [dS t] s) (.d .none) s :=
 (read_go (n := n) (k := .sg c) (rest := [.en]) (b := false) h0 ht rfl (fun w h => decide_eq_false fun e => Tk.noConfusion (tw_en h e)) hx hl (by rw [lap]; rfl)).elim fun _ y => y.2
theorem bad_end (e : exs (cN KK (n + 9)) (fS 972) (trB (stAt 972 0)) (lk [(so "text", dS t)]) s = .exc) : ∃ s', cl (n + 10) 972 [dS t] s = .ok (.d .none) s' := by
 have e1 := try_x e
 exact ⟨_, Ends.toD (.tr (Tr.x (e1) <| Tr.ret _) (by kernel_rfl))⟩
theorem read_bad (h0 : 0 < s.next) (ht : t.length ≤ 800000) (h : BadT ts) (hl : Lx t ts) : ∃ s', cl (n + 10) 972 [dS t] s = .ok (.d .none) s' := by
 have w := Fw.start (Q := Is (s.objs 0)) h0 rfl
 refine (sta_c (n := n + 3) h0 ht hl).elim fun a z => z.elim fun s1 z => z.elim fun s2 z => ?_
 have e1 := z.e1
 have e2 := z.e2
 have w1 := z.w1
 have w2 := z.w2
 have r := z.r
 refine bad_end ?_
 cases h with
 | c h =>
  refine (tk_t (n := n + 7) (y := cp "CREATE") (k := tk "CREATE") (by kernel_rfl) (by kernel_rfl) w2.x_lt w2.q).elim fun s3 e3 m3 => ?_
  have w3 := w2.mv m3
  have e4 := cr_x (n := n + 3) rfl h (r.mv m3) w3.q
  exact xs_run (Tr.v (e1) <| Tr.v (e2) <| Tr.v (st_mth (nm := (so "take_key")) (f := 792) w2.q (fun _ _ => by kernel_rfl)) <| Tr.v (e3) <| Tr.v (mth_of (a := (so "create")) (f := 292) (w3.g 0 rfl) (by kernel_rfl)) <| Tr.exv (e4)) (by kernel_rfl)
 | d h =>
  refine (tk_f (n := n + 7) (y := cp "CREATE") (k := tk "DROP") (by kernel_rfl) (by kernel_rfl) w2.x_lt w2.q).elim fun s3 e3 m3 => ?_
  have w3 := w2.mv m3
  refine (nk_t (n := n + 6) (y := cp "DROP") (k := tk "DROP") (by kernel_rfl) (by kernel_rfl) w3.x_lt w3.q).elim fun s4 e4 m4 => ?_
  have w4 := w3.mv m4
  have e5 := dr_x (n := n + 4) rfl h ((r.mv m3).mv m4) w4.q
  exact xs_run (Tr.v (e1) <| Tr.v (e2) <| Tr.v (st_mth (nm := (so "take_key")) (f := 792) w2.q (fun _ _ => by kernel_rfl)) <| Tr.v (e3) <| Tr.v (st_mth (nm := (so "need_key")) (f := 806) w3.q (fun _ _ => by kernel_rfl)) <| Tr.v (e4) <| Tr.v (mth_of (a := (so "drop")) (f := 285) (w4.g 0 rfl) (by kernel_rfl)) <| Tr.exv (e5)) (by kernel_rfl)
 | w h h2 =>
  refine (tk_f (n := n + 7) (y := cp "CREATE") h (by kernel_rfl) w2.x_lt w2.q).elim fun s3 e3 m3 => ?_
  have w3 := w2.mv m3
  have e4 := nk_x (n := n + 5) (y := cp "DROP") h2 (by kernel_rfl) (lbe rfl) w3.x_lt w3.q
  exact xs_run (Tr.v (e1) <| Tr.v (e2) <| Tr.v (st_mth (nm := (so "take_key")) (f := 792) w2.q (fun _ _ => by kernel_rfl)) <| Tr.v (e3) <| Tr.v (st_mth (nm := (so "need_key")) (f := 806) w3.q (fun _ _ => by kernel_rfl)) <| Tr.exv (e4)) (by kernel_rfl)
end
section
variable {n : Nat} {s u : MSt} {x : Ix} {c : Cl} {cc : Cc} {tc : Tc} {α : Type} {g row : α → D} {l : List α}
theorem Nt.cut (h : Nt s u) : Nt s ⟨u.next, above s.next u.objs⟩ := ⟨h.n, fun k z => (above_lt z).trans (h.k k z)⟩
theorem row_none (h0 : 0 < s.next) : Qt (cl (n + 1) 28 [.d .none] s) (.d .none) s := by
 have w := Fw.start (Q := Is (s.objs 0)) h0 rfl
 exact ⟨_, Ends.toD (.tr (Tr.ret _) (by kernel_rfl)), .back s⟩
theorem row_ix0 (h0 : 0 < s.next) : cl (n + 1) 139 [.d (ixD x)] s = .ok (.d (ixRow x)) ⟨s.next, above s.next s.objs⟩ := by
 have w := Fw.start (Q := Is (s.objs 0)) h0 rfl
 obtain ⟨nm, co, de⟩ := x
 cases co with
 | none => exact Ends.toD (.tr (Tr.ret _) (by kernel_rfl))
 | some co => exact Ends.toD (.tr (Tr.ret _) (by kernel_rfl))
theorem row_ix (h0 : 0 < s.next) : Qt (cl (n + 2) 28 [.d (ixD x)] s) (.d (ixRow x)) s := by
 have w := Fw.start (Q := Is (s.objs 0)) h0 rfl
 have e1 := row_ix0 (n := n) (x := x) h0
 have w1 := w.nt (.back s)
 exact ⟨_, Ends.toD (.tr (Tr.v (e1) <| Tr.ret _) (by kernel_rfl)), (Nt.back s).cut⟩
theorem a2_same : ∀ {l : List α} {bs : List α}, All2 (fun a b => b = a) l bs → bs = l
 | [], _, h => by cases h; rfl
 | a :: l, _, h => by
  cases h with | mk b m e h t => rw [e, h, a2_same t]
theorem rows_c (h0 : 0 < s.next) (hl : l.length ≤ cap) (step : ∀ a u, 0 < u.next → Qt (cl (n + 1) 28 [.d (g a)] u) (.d (row a)) u) : Qt (cl (n + 2) 33 [.d (.lst (l.map g))] s) (.d (.tup (l.map row))) s := by
 have w := Fw.start (Q := Is (s.objs 0)) h0 rfl
 refine (cp_run (c := cN KK (n + 1)) (e := cpE (aOf (vOf (stAt 33 0)))) (cs := cpS (aOf (vOf (stAt 33 0)))) (y := so "node") (E := [(so "nodes", .d (.lst (l.map g)))]) (h := row) (R := fun a b => b = a) (t := s) (iv := .d (.lst (l.map g))) rfl h0 w.q hl fun k u xl q =>
  (step k u xl).elim fun s1 e1 h1 => ⟨k, s1, ev_run (Tr.v e1 <| Tr.ret _) (by kernel_rfl), ⟨h1.n, fun k z _ => h1.k k z, q_of (h1.k 0 xl) q⟩, rfl⟩).elim fun bs s1 e1 m1 p1 => ?_
 have eb := a2_same p1
 subst eb
 have w1 := (w.mv m1).nw (.list ((bs.map row).map .d))
 have hl' : (bs.map row).length ≤ cap := by rw [llm]; exact hl
 have e : Ends 33 (n + 1) [.d (.lst (bs.map g))] s (.d (.tup (bs.map row))) _ := .tr (Tr.v (e1) <| Tr.v (ty_tup (lof (w1.g 0 rfl)) hl') <| Tr.ret _) (by kernel_rfl)
 exact ⟨_, e.toD, ⟨w1.n, fun k z => (above_lt z).trans ((Classical.em (k = 0)).elim (fun e => by rw [e]; exact w1.q) (w1.k k z))⟩⟩
theorem row_tc (h0 : 0 < s.next) (hl : tc.cols.length ≤ 2) : Qt (cl (n + 5) 28 [.d (tcD tc)] s) (.d (tcRow tc)) s := by
 have w := Fw.start (Q := Is (s.objs 0)) h0 rfl
 refine (rows_c (n := n + 1) (l := tc.cols) (g := ixD) (row := ixRow) h0 (nlt hl (by decide)) fun _ _ h => row_ix h).elim fun s1 e1 h1 => ?_
 have w1 := w.nt h1
 refine (row_none (n := n + 2) w1.x_lt).elim fun s2 e2 h2 => ?_
 have w2 := w1.nt h2
 have e3 : cl (n + 4) 165 [.d (tcD tc)] s = .ok (.d (tcRow tc)) ⟨s2.next, above s.next s2.objs⟩ := Ends.toD (.tr (Tr.v (e1) <| Tr.v (e2) <| Tr.ret _) (by kernel_rfl))
 have h3 : Nt s ⟨s2.next, above s.next s2.objs⟩ := Nt.cut ⟨nlt h1.n h2.n, fun k z => (h2.k k (lll z h1.n)).trans (h1.k k z)⟩
 have w3 := w.nt h3
 exact ⟨_, Ends.toD (.tr (Tr.v (e3) <| Tr.ret _) (by kernel_rfl)), h3.cut⟩
end
noncomputable section
def ccA : Cc → List Nat
 | .pk _ => cp "primary key"
 | .nn => cp "not null"
 | .uq => cp "unique"
 | .co _ => cp "collate"
noncomputable def ccB : Cc → D
 | .pk d => .bool d
 | .co n => nmD n
 | _ => .none
noncomputable def rwE (m : Nat) (d : D) : EL := [(so "self", .d d), (so "pairs", .ref m)]
structure ClOk (c : Cl) : Prop where
 l : c.cs.length ≤ 9000
structure TcOk (c : Tc) : Prop where
 l : c.cols.length ≤ 2
def SmOk : Sm → Prop
 | .table _ _ cls tcs => (cls.length ≤ 2 ∧ ∀ c ∈ cls, ClOk c) ∧ tcs.length ≤ 1 ∧ ∀ c ∈ tcs, TcOk c
 | .index _ _ xs _ _ => xs.length ≤ 2
 | .drop .. => True
noncomputable def rowF : Sm → Nat
 | .table .. => 191
 | .index .. => 217
 | .drop .. => 243
end
section
variable {n : Nat} {s u : MSt} {c : Cl} {cc : Cc} {α : Type} {g row : α → D} {l : List α} {x : List Nat} {st : Sm} {P : α → Prop}
theorem cc_eq (cc : Cc) : ccRow cc = .tup [.str (ccA cc), ccB cc] := by
 cases cc <;> rfl
theorem cc_no (cc : Cc) : anyS (ccA cc) [cp "check", cp "default"] = false := by
 cases cc <;> kernel_rfl
structure Rg (s : MSt) (cs : List Cc) (r : List Cc) (dn : List Cc) (u : MSt) : Prop where
 w : Fw 0 (Is (s.objs 0)) s [(s.next, .list ((dn.map ccRow).map .d))] u
 e : dn ++ r = cs
theorem row_cl0 (h0 : 0 < s.next) (hl : ClOk c) : Qt (cl (n + 1) 113 [.d (clD c)] s) (.d (clRow c)) s := by
 have w := Fw.start (Q := Is (s.objs 0)) h0 rfl
 have w0 := w.nw (.list (([] : List D).map .d))
 obtain ⟨nm, ty, cs⟩ := c
 have hl := hl.l
 refine (for_run (c := cN KK n) (sc := fS 113) (t := (lpP (stAt 113 1)).1) (b := (lpP (stAt 113 1)).2) (rg := false) (v := .d (.lst (cs.map ccRow))) (s := nw s (.list (([] : List D).map .d))) (s0 := nw s (.list (([] : List D).map .d))) (l := cs) (it := fun c => .d (ccRow c)) (bd := fun c => [(so "detail", .d (ccB c)), (so "word", .d (.str (ccA c)))]) (E := [(so "pairs", .ref s.next), (so "self", .d (clD ⟨nm, ty, cs⟩))]) (pre := fun _ => rwE s.next (clD ⟨nm, ty, cs⟩)) (I := Rg s cs) (a := [])
  (it_d.trans (by rw [List.map_map]; rfl)) (fun c E => ?_) ?_ rfl ⟨w0, rfl⟩).elim fun dn E u e2 j => ?_
 ·have z : ∀ le, bindFor (fS 113) (lpP (stAt 113 1)).1 (.d (.tup [.str (ccA c), ccB c])) le = some ((le.set (so "word") (.d (.str (ccA c)))).set (so "detail") (.d (ccB c))) := fun le => by kernel_rfl
  show bindFor _ _ (.d (ccRow c)) _ = _
  rw [cc_eq, z]
  exact congrArg some ((lk_set _ _ _).trans (congrArg (fun f : LEnv => f.set _ _) (lk_set _ _ _))).symm
 ·intro c r dn E u I
  have w1 := I.w
  have h2 := any_L (cc_no c)
  have sn := map_snoc ccRow dn c
  rw [cc_eq c] at sn
  have hn : ((dn.map ccRow).map MV.d).length < cap := by
   rw [llm, llm]
   refine lll (lll (m := cs.length) ?_ hl) (by decide)
   rw [← I.e, lla]; exact Nat.lt_add_of_pos_right (Nat.succ_pos _)
  have w2 := w1.put 0 rfl (.list (((dn ++ [c]).map ccRow).map .d))
  exact ⟨dn ++ [c], [(so "detail", .d (ccB c)), (so "word", .d (.str (ccA c)))] ++ (rwE s.next (clD ⟨nm, ty, cs⟩) ++ E), _, xs_on (Tr.v (app_m (w1.g 0 rfl)) <| Tr.v (in_t h2) <| Tr.v (app_e (v := (.d (.tup [(.str (ccA c)), (ccB c)]))) (w1.g 0 rfl) hn sn) <| Tr.ret _) (by kernel_rfl), (by exact rfl), ⟨w2, by rw [lap]; exact I.e⟩⟩
 ·have w1 := j.w
  have ee : dn = cs := (lan dn).symm.trans j.e
  subst ee
  have hl' : (dn.map ccRow).length ≤ cap := by rw [llm]; exact nlt hl (by decide)
  have q : ∀ d, Ends 113 n [.d (clD ⟨nm, ty, dn⟩)] s (.d d) u → Qt (cl (n + 1) 113 [.d (clD ⟨nm, ty, dn⟩)] s) (.d d) s := fun d e => ⟨_, e.toD, ⟨w1.n, fun k z => (above_lt z).trans ((Classical.em (k = 0)).elim (fun e => by rw [e]; exact w1.q) (w1.k k z))⟩⟩
  obtain ⟨ty, hty⟩ := ty
  cases ty with
  | none => exact q _ (.tr (Tr.v (mkl (l := (List.map MV.d [])) (lbe rfl)) <| Tr.x (e2) <| Tr.v (ty_tup (lof (w1.g 0 rfl)) hl') <| Tr.ret _) (by kernel_rfl))
  | some ty => exact q _ (.tr (Tr.v (mkl (l := (List.map MV.d [])) (lbe rfl)) <| Tr.x (e2) <| Tr.v (ty_tup (lof (w1.g 0 rfl)) hl') <| Tr.ret _) (by kernel_rfl))
theorem row_cl (h0 : 0 < s.next) (hl : ClOk c) : Qt (cl (n + 2) 28 [.d (clD c)] s) (.d (clRow c)) s := by
 have w := Fw.start (Q := Is (s.objs 0)) h0 rfl
 refine (row_cl0 (n := n) h0 hl).elim fun s1 e1 h1 => ?_
 have w1 := w.nt h1
 exact ⟨_, Ends.toD (.tr (Tr.v (e1) <| Tr.ret _) (by kernel_rfl)), h1.cut⟩
theorem rows_p (h0 : 0 < s.next) (hl : l.length ≤ 2) (hp : ∀ a ∈ l, P a) (step : ∀ a u, P a → 0 < u.next → Qt (cl (n + 1) 28 [.d (g a)] u) (.d (row a)) u) : Qt (cl (n + 2) 33 [.d (.lst (l.map g))] s) (.d (.tup (l.map row))) s := by
 have hlc : (l.attachWith P hp).length ≤ cap := List.length_attachWith (H := hp) ▸ to_cap hl
 have z := rows_c (α := {a // P a}) (n := n) (s := s) (l := l.attachWith P hp) (g := fun a => g a.1) (row := fun a => row a.1) h0 hlc fun a u h => step a.1 u a.2 h
 have e : ∀ f : α → D, (l.attachWith P hp).map (fun a => f a.1) = l.map f := fun f => by
  show (l.attachWith P hp).map (f ∘ Subtype.val) = _
  rw [← List.map_map, List.attachWith_map_subtype_val]
 rw [e g, e row] at z; exact z
theorem row_st (h0 : 0 < s.next) (hx : SmOk st) : Qt (cl (n + 7) (rowF st) [.d (nodeD x st)] s) (.d (stRow st)) s := by
 have w := Fw.start (Q := Is (s.objs 0)) h0 rfl
 cases st with
 | table mi nm cls tcs =>
  refine (rows_p (n := n + 4) (l := cls) (g := clD) (row := clRow) h0 hx.1.1 hx.1.2 fun _ _ h z => row_cl z h).elim fun s1 e1 h1 => ?_
  have w1 := w.nt h1
  refine (rows_p (n := n + 4) (l := tcs) (g := tcD) (row := tcRow) w1.x_lt (Nat.le_succ_of_le hx.2.1) hx.2.2 fun _ _ h z => row_tc z h.l).elim fun s2 e2 h2 => ?_
  have w2 := w1.nt h2
  exact ⟨_, Ends.toD (.tr (Tr.v (e1) <| Tr.v (e2) <| Tr.ret _) (by kernel_rfl)), Nt.cut ⟨nlt h1.n h2.n, fun k z => (h2.k k (lll z h1.n)).trans (h1.k k z)⟩⟩
 | index nm tb xs un mi =>
  refine (rows_c (n := n + 4) (l := xs) (g := ixD) (row := ixRow) h0 (nlt hx (by decide)) fun _ _ h => row_ix h).elim fun s1 e1 h1 => ?_
  have w1 := w.nt h1
  exact ⟨_, Ends.toD (.tr (Tr.v (e1) <| Tr.ret _) (by kernel_rfl)), h1.cut⟩
 | drop ix nm ex =>
  exact ⟨_, Ends.toD (.tr (Tr.ret _) (by kernel_rfl)), .back s⟩
end
noncomputable section
noncomputable def quo (x : List Nat) : List Nat := 34 :: (repl1 34 [34, 34] x ++ [34])
def wnm (x : List Nat) : List Nat := cond (anyS x [cp "order", cp "x y", cp "q\"q", cp "select"]) (quo x) x
def wty (x : List Nat) : List Nat := cond (anyS x [cp "VARCHAR(10)", cp "big number(5,-2)"]) (quo x) x
def wnL : List (List Nat × Nat) := names11.zip [5, 6, 6, 7, 4, 6, 6, 4, 10, 9, 10]
noncomputable def ab (n : Nat) : Nat → (Nat → MObj) → (Nat → MObj)
 | 0, f => f
 | k + 1, f => above n (ab n k f)
end
section
variable {n : Nat} {s : MSt} {x : List Nat}
theorem ab_lt {m i : Nat} {f : Nat → MObj} (h : i < m) : ∀ k, ab m k f i = f i
 | 0 => rfl
 | k + 1 => (above_lt h).trans (ab_lt h k)
theorem wn_c : ∀ p ∈ wnL, cl (n + 4) 633 [dS p.1] s = .ok (dS (wnm p.1)) ⟨s.next, ab s.next p.2 s.objs⟩ :=
 fmc ⟨by kernel_rfl, fmc ⟨by kernel_rfl, fmc ⟨by kernel_rfl, fmc ⟨by kernel_rfl, fmc ⟨by kernel_rfl, fmc ⟨by kernel_rfl, fmc ⟨by kernel_rfl, fmc ⟨by kernel_rfl, fmc ⟨by kernel_rfl, fmc ⟨by kernel_rfl, fmc ⟨by kernel_rfl, fun _ h => nomatch h⟩⟩⟩⟩⟩⟩⟩⟩⟩⟩⟩
theorem wn_in : ∀ x ∈ names11, ∃ p ∈ wnL, p.1 = x := by decide +kernel
theorem wn_q (h : x ∈ names11) : Qt (cl (n + 4) 633 [dS x] s) (dS (wnm x)) s := (wn_in x h).elim fun p z => by
 have e := wn_c (n := n) (s := s) p z.1
 rw [z.2] at e
 exact ⟨_, e, nlr _, fun k h => ab_lt h _⟩
noncomputable def wnB (x : List Nat) : Bool := Nat.ble (wnm x).length 8 && (match anyS x [cp "order", cp "x y", cp "q\"q", cp "select"] with | true => qokB 34 x | false => btB x (.free x))
theorem wn_ok : ∀ x ∈ names11, wnB x = true := by decide +kernel
theorem wn_lex (h : x ∈ names11) : LexU (wnm x) [.free x] ∧ (wnm x).length ≤ 8 := by
 have z := (Bool.and_eq_true _ _).mp (wn_ok x h)
 refine ⟨?_, lbe z.1⟩
 have z2 := z.2
 unfold wnm
 cases hb : anyS x [cp "order", cp "x y", cp "q\"q", cp "select"] with
 | true => rw [hb] at z2; exact lx_quote (qok_of (.inl rfl) z2)
 | false => rw [hb] at z2; exact lx_bare z2
theorem ty_go {t : List Nat} {ws : List (List Nat)} {fl : Fl} {E' : EL} {k : Nat} {le : LEnv}
  (e0 : floop (bindFor (fS 640) (lpP (stAt 640 0)).1) (fun le => exs (cN KK (n + 4)) (fS 640) (lpP (stAt 640 0)).2 le) (SL ws) (lk [(so "type_name", dS t)]) (pt (nw s (.list (SL ws))) s.next .gone) = .ok (fl, le) ⟨s.next + 1, ab (s.next + 1) k (pt (nw s (.list (SL ws))) s.next .gone).objs⟩)
  (hl : le = lk E') : forM (cN KK (n + 4)) (fS 640) false (lpP (stAt 640 0)).1 (lpP (stAt 640 0)).2 [(so "type_name", dS t)] (.ref s.next) (nw s (.list (SL ws))) = .ok (fl, lk E') ⟨s.next + 1, ab (s.next + 1) k (pt (nw s (.list (SL ws))) s.next .gone).objs⟩ := by
 subst hl
 refine (bind_ok (it_ref (uS ..))).trans ?_
 rw [show ws.map dS = SL ws from (List.map_map ..).symm ▸ rfl]
 exact e0
theorem ty_nt {k : Nat} {o : MObj} : Nt s ⟨s.next + 1, above s.next (ab (s.next + 1) k (pt (nw s o) s.next .gone).objs)⟩ := ⟨Nat.le_succ _, fun i h => (above_lt h).trans ((ab_lt (Nat.lt_succ_of_lt h) k).trans ((uN (nnl h)).trans (uN (nnl h))))⟩
theorem wt_0 : Qt (cl (n + 5) 640 [dS (cp "INT")] s) (dS (wty (cp "INT"))) s := by
 have e1 := ty_go (n := n) (s := s) (t := cp "INT") (ws := [cp "INT"]) (fl := .next) (k := 6) (le := (lk [(so "type_name", dS (cp "INT"))]).set (so "word") (dS (cp "INT"))) (E' := (so "word", dS (cp "INT")) :: [(so "type_name", dS (cp "INT"))]) (by kernel_rfl) ((lk_set ..).symm)
 exact ⟨_, Ends.toD (.tr (Tr.v (sm_split (q := 32) (l := cp "INT") (L := SL [cp "INT"]) (lbe rfl) (by kernel_rfl) (lbe rfl)) <| Tr.x e1 <| Tr.ret _) (by kernel_rfl)), ty_nt⟩
theorem wt_1 : Qt (cl (n + 5) 640 [dS (cp "text")] s) (dS (wty (cp "text"))) s := by
 have e1 := ty_go (n := n) (s := s) (t := cp "text") (ws := [cp "text"]) (fl := .next) (k := 7) (le := (lk [(so "type_name", dS (cp "text"))]).set (so "word") (dS (cp "text"))) (E' := (so "word", dS (cp "text")) :: [(so "type_name", dS (cp "text"))]) (by kernel_rfl) ((lk_set ..).symm)
 exact ⟨_, Ends.toD (.tr (Tr.v (sm_split (q := 32) (l := cp "text") (L := SL [cp "text"]) (lbe rfl) (by kernel_rfl) (lbe rfl)) <| Tr.x e1 <| Tr.ret _) (by kernel_rfl)), ty_nt⟩
theorem wt_2 : Qt (cl (n + 5) 640 [dS (cp "VARCHAR(10)")] s) (dS (wty (cp "VARCHAR(10)"))) s := by
 have e1 := ty_go (n := n) (s := s) (t := cp "VARCHAR(10)") (ws := [cp "VARCHAR(10)"]) (fl := .ret (dS (wty (cp "VARCHAR(10)")))) (k := 23) (le := (lk [(so "type_name", dS (cp "VARCHAR(10)"))]).set (so "word") (dS (cp "VARCHAR(10)"))) (E' := (so "word", dS (cp "VARCHAR(10)")) :: [(so "type_name", dS (cp "VARCHAR(10)"))]) (by kernel_rfl) ((lk_set ..).symm)
 exact ⟨_, Ends.toD (.tr (Tr.v (sm_split (q := 32) (l := cp "VARCHAR(10)") (L := SL [cp "VARCHAR(10)"]) (lbe rfl) (by kernel_rfl) (lbe rfl)) <| Tr.x e1 <| Tr.ret _) (by kernel_rfl)), ty_nt⟩
theorem wt_3 : Qt (cl (n + 5) 640 [dS (cp "big number(5,-2)")] s) (dS (wty (cp "big number(5,-2)"))) s := by
 have e1 := ty_go (n := n) (s := s) (t := cp "big number(5,-2)") (ws := [cp "big", cp "number(5,-2)"]) (fl := .ret (dS (wty (cp "big number(5,-2)")))) (k := 24) (le := ((lk [(so "type_name", dS (cp "big number(5,-2)"))]).set (so "word") (dS (cp "big"))).set (so "word") (dS (cp "number(5,-2)"))) (E' := (so "word", dS (cp "number(5,-2)")) :: (so "word", dS (cp "big")) :: [(so "type_name", dS (cp "big number(5,-2)"))]) (by kernel_rfl) ((lk_set ..).trans (congrArg (fun f : LEnv => f.set _ _) (lk_set ..)) |>.symm)
 exact ⟨_, Ends.toD (.tr (Tr.v (sm_split (q := 32) (l := cp "big number(5,-2)") (L := SL [cp "big", cp "number(5,-2)"]) (lbe rfl) (by kernel_rfl) (lbe rfl)) <| Tr.x e1 <| Tr.ret _) (by kernel_rfl)), ty_nt⟩
theorem wt_4 : Qt (cl (n + 5) 640 [dS (cp "x y")] s) (dS (wty (cp "x y"))) s := by
 have e1 := ty_go (n := n) (s := s) (t := cp "x y") (ws := [cp "x", cp "y"]) (fl := .next) (k := 8) (le := ((lk [(so "type_name", dS (cp "x y"))]).set (so "word") (dS (cp "x"))).set (so "word") (dS (cp "y"))) (E' := (so "word", dS (cp "y")) :: (so "word", dS (cp "x")) :: [(so "type_name", dS (cp "x y"))]) (by kernel_rfl) ((lk_set ..).trans (congrArg (fun f : LEnv => f.set _ _) (lk_set ..)) |>.symm)
 exact ⟨_, Ends.toD (.tr (Tr.v (sm_split (q := 32) (l := cp "x y") (L := SL [cp "x", cp "y"]) (lbe rfl) (by kernel_rfl) (lbe rfl)) <| Tr.x e1 <| Tr.ret _) (by kernel_rfl)), ty_nt⟩
theorem wt_q (h : some x ∈ tolds) : Qt (cl (n + 5) 640 [dS x] s) (dS (wty x)) s := by
 have z : ∀ o ∈ tolds, ∀ x, o = some x → Qt (cl (n + 5) 640 [dS x] s) (dS (wty x)) s :=
  fmc ⟨nofun, fmc ⟨fun _ e => Option.some.inj e ▸ wt_0, fmc ⟨fun _ e => Option.some.inj e ▸ wt_1, fmc ⟨fun _ e => Option.some.inj e ▸ wt_2, fmc ⟨fun _ e => Option.some.inj e ▸ wt_3, fmc ⟨fun _ e => Option.some.inj e ▸ wt_4, fun _ h => nomatch h⟩⟩⟩⟩⟩⟩
 exact z _ h x rfl
theorem wt_lex (h : some x ∈ tolds) : (∃ ts, TyT (some x) ts ∧ LexU (wty x) ts) ∧ (wty x).length ≤ 18 := by
 have q : ∀ {x}, qokB 34 x = true → LexU (quo x) [.free x] := fun h => lx_quote (qok_of (.inl rfl) h)
 have m : ∀ {p : List (List Nat) × Nat} {o}, p ∈ tyP → tyX p = o → TyT o (tyTk p) := fun h e => .mk h e
 have z : ∀ o ∈ tolds, ∀ x, o = some x → (∃ ts, TyT (some x) ts ∧ LexU (wty x) ts) ∧ (wty x).length ≤ 18 :=
  fmc ⟨nofun, fmc ⟨fun _ e => Option.some.inj e ▸ ⟨⟨_, m (p := ([cp "INT"], 0)) (by decide +kernel) (by kernel_rfl), lx_bare (by kernel_rfl)⟩, lbe (by kernel_rfl)⟩, fmc ⟨fun _ e => Option.some.inj e ▸ ⟨⟨_, m (p := ([cp "text"], 0)) (by decide +kernel) (by kernel_rfl), lx_bare (by kernel_rfl)⟩, lbe (by kernel_rfl)⟩, fmc ⟨fun _ e => Option.some.inj e ▸ ⟨⟨_, m (p := ([cp "VARCHAR(10)"], 0)) (by decide +kernel) (by kernel_rfl), q (x := cp "VARCHAR(10)") (by kernel_rfl)⟩, lbe (by kernel_rfl)⟩, fmc ⟨fun _ e => Option.some.inj e ▸ ⟨⟨_, m (p := ([cp "big number(5,-2)"], 0)) (by decide +kernel) (by kernel_rfl), q (x := cp "big number(5,-2)") (by kernel_rfl)⟩, lbe (by kernel_rfl)⟩, fmc ⟨fun _ e => Option.some.inj e ▸ ⟨⟨_, m (p := ([cp "x", cp "y"], 0)) (by decide +kernel) (by kernel_rfl), LexF.cat (u := [120, 32]) (a := [.free [120]]) ((lx_bare (u := [120]) (by kernel_rfl)).f lx_bl rfl nofun) (lx_bare (u := [121]) (k := .free [121]) (by kernel_rfl))⟩, lbe (by kernel_rfl)⟩, fun _ h => nomatch h⟩⟩⟩⟩⟩⟩
 exact z _ h x rfl
end
noncomputable section
noncomputable def wrO : MObj := .inst 704 [(so "expressions", .d .none)]
def deX : Bool → List Nat
 | true => cp " DESC"
 | false => []
def wixA (x : Ix) : List Nat := match x.co with
 | none => wnm x.nm.1
 | some c => wnm x.nm.1 ++ cp " COLLATE " ++ wnm c.1
def wix (x : Ix) : List Nat := wixA x ++ deX x.de
def wks (xs : List Ix) : List Nat := [40] ++ joinL [44, 32] (xs.map wix) ++ [41]
def wcc : Cc → List Nat
 | .pk d => cp " PRIMARY KEY" ++ deX d
 | .nn => cp " NOT NULL"
 | .uq => cp " UNIQUE"
 | .co n => cp " COLLATE " ++ wnm n.1
end
structure Wg {α : Type} (f : α → List Nat) (m : Nat) (s : MSt) (xs : List α) (r dn : List α) (u : MSt) : Prop where
 w : Fw m (Is wrO) s [(s.next, .list (SL (dn.map f)))] u
 e : dn ++ r = xs
section
variable {n m : Nat} {s u : MSt} {xs : List Ix} {c : Cc} {ws : List (List Nat)} {B : Nat}
theorem wn_len {x : Na} : (wnm x.1).length ≤ 8 := (wn_lex x.2).2
theorem de_len {d : Bool} : (deX d).length ≤ 5 := by cases d <;> exact lbe rfl
theorem wixA_len {x : Ix} : (wixA x).length ≤ 25 := by
 unfold wixA
 cases x.co with
 | none => exact nlt wn_len (by decide)
 | some c => exact len_app (a := 17) (b := 8) (len_app (a := 8) (b := 9) wn_len (lbe rfl)) wn_len
theorem wix_len {x : Ix} : (wix x).length ≤ 30 := len_app wixA_len de_len
theorem wcc_len : (wcc c).length ≤ 17 := by
 cases c with
 | pk => exact len_app (a := 12) (b := 5) (lbe rfl) de_len
 | nn => exact lbe rfl
 | uq => exact lbe rfl
 | co => exact len_app (a := 9) (b := 8) (lbe rfl) wn_len
theorem sum_len : ∀ ws : List (List Nat), (∀ w ∈ ws, w.length ≤ B) → (ws.map (·.length)).sum ≤ ws.length * B
 | [], _ => Nat.zero_le _
 | w :: ws, h => by
  rw [llc, Nat.succ_mul, Nat.add_comm]
  exact Nat.add_le_add (h w (.head _)) (sum_len ws fun x hx => h x (.tail _ hx))
theorem jn_len : ∀ ws : List (List Nat), (∀ w ∈ ws, w.length ≤ B) → (joinL [44, 32] ws).length ≤ ws.length * (B + 2)
 | [], _ => Nat.zero_le _
 | [w], h => nlt (h w (.head _)) (by rw [show [w].length = 1 from rfl, Nat.one_mul]; exact nla _ _)
 | w :: v :: ws, h => by
  have z := jn_len (v :: ws) fun x hx => h x (.tail _ hx)
  show (w ++ [44, 32] ++ joinL [44, 32] (v :: ws)).length ≤ _
  rw [llc, Nat.succ_mul, Nat.add_comm]
  exact len_app (len_app (h w (.head _)) (nlr 2)) z
theorem map_le {α : Type} {f : α → List Nat} {l : List α} (h : ∀ x, (f x).length ≤ B) : ∀ w ∈ l.map f, w.length ≤ B := fun _ hw => (List.mem_map.mp hw).elim fun x z => z.2 ▸ h x
theorem sl_snoc {α : Type} (f : α → List Nat) (dn : List α) (x : α) : SL (dn.map f) ++ [dS (f x)] = SL ((dn ++ [x]).map f) := by
 rw [List.map_append]; exact SL_app (dn.map f) [f x]
theorem wg_lt {α : Type} {f : α → List Nat} {x : α} {dn xr xs : List α} (e : dn ++ x :: xr = xs) (h : xs.length ≤ 2) : (SL (dn.map f)).length < cap := by
 rw [SL_len, llm]
 refine lll (lll ?_ h) (by decide : 2 ≤ cap)
 rw [← e, lla]; exact Nat.lt_add_of_pos_right (Nat.succ_pos _)
noncomputable def wkE (m q : Nat) (d : D) : EL := [(so "self", .ref m), (so "columns", .d d), (so "found", .ref q)]
theorem wk_c (hm : s.objs m = wrO) (xl : m < s.next) (hl : xs.length ≤ 2) : Gv (cl (n + 5) 668 [.ref m, .d (.lst (xs.map ixD))] s) (dS (wks xs)) m (Is wrO) s := by
 have w := Fw.start (Q := Is wrO) xl hm
 have w0 := w.nw (.list (SL []))
 refine (for_run (c := cN KK (n + 4)) (sc := fS 668) (t := (lpP (stAt 668 1)).1) (b := (lpP (stAt 668 1)).2) (rg := false) (v := .d (.lst (xs.map ixD))) (s := nw s (.list (SL []))) (s0 := nw s (.list (SL []))) (l := xs) (it := fun c => .d (ixD c)) (bd := fun x => [(so "column", .d (ixD x))]) (E := [(so "found", .ref s.next), (so "self", .ref m), (so "columns", .d (.lst (xs.map ixD)))]) (pre := fun _ => wkE m s.next (.lst (xs.map ixD))) (I := Wg wix m s xs) (a := [])
  (it_d.trans (by rw [List.map_map]; rfl)) (fun c E => bf_name (x := so "column") (fun v le => by kernel_rfl) _ E) ?_ rfl ⟨w0, rfl⟩).elim fun dn E u e2 j => ?_
 ·intro x r dn E u I
  have w1 := I.w
  have hn := wg_lt (f := wix) I.e hl
  have sn := sl_snoc wix dn x
  have he := I.e
  have tl : ∀ (E' : EL) {u'}, Pre (wkE m s.next (.lst (xs.map ixD))) E' → exs (cN KK (n + 4)) (fS 668) (lpP (stAt 668 1)).2 (lk ([(so "column", .d (ixD x))] ++ (wkE m s.next (.lst (xs.map ixD)) ++ E))) u = .ok (.next, lk E') u' → Fw m (Is wrO) s [(s.next, .list (SL ((dn ++ [x]).map wix)))] u' → Blk (exs (cN KK (n + 4)) (fS 668) (lpP (stAt 668 1)).2 (lk ([(so "column", .d (ixD x))] ++ (wkE m s.next (.lst (xs.map ixD)) ++ E))) u) (fun _ => wkE m s.next (.lst (xs.map ixD))) (Wg wix m s xs r) := fun E' _ hp e w => ⟨dn ++ [x], E', _, e, hp, ⟨w, by rw [lap]; exact he⟩⟩
  obtain ⟨nm, co, de⟩ := x
  refine (wn_q (n := n) (s := u) nm.2).elim fun s2 e2 h2 => ?_
  have w2 := w1.nt h2
  cases co with
  | none =>
   have l1 : (wnm nm.1 ++ deX de).length ≤ cap := to_cap (wix_len (x := ⟨nm, none, de⟩))
   have w3 := w2.put 0 rfl (.list (SL ((dn ++ [(⟨nm, none, de⟩ : Ix)]).map wix)))
   cases de with
   | false => exact tl ((so "text", dS (wnm nm.1)) :: ([(so "column", .d (ixD ⟨nm, none, false⟩))] ++ (wkE m s.next (.lst (xs.map ixD)) ++ E))) (by exact rfl) (xs_on (Tr.v (e2) <| Tr.v (app_m (w2.g 0 rfl)) <| Tr.v (adds (x := (wnm nm.val)) (y := []) l1) <| Tr.v (app_e (v := (.d (.str (wnm nm.val ++ [])))) (w2.g 0 rfl) hn sn) <| Tr.ret _) (by kernel_rfl)) w3
   | true => exact tl ((so "text", dS (wnm nm.1)) :: ([(so "column", .d (ixD ⟨nm, none, true⟩))] ++ (wkE m s.next (.lst (xs.map ixD)) ++ E))) (by exact rfl) (xs_on (Tr.v (e2) <| Tr.v (app_m (w2.g 0 rfl)) <| Tr.v (adds (x := (wnm nm.val)) (y := (cp " DESC")) l1) <| Tr.v (app_e (v := (.d (.str (wnm nm.val ++ cp " DESC")))) (w2.g 0 rfl) hn sn) <| Tr.ret _) (by kernel_rfl)) w3
  | some co =>
   refine (wn_q (n := n) (s := s2) co.2).elim fun s3 e3 h3 => ?_
   have w3 := w2.nt h3
   have w4 := w3.put 0 rfl (.list (SL ((dn ++ [(⟨nm, some co, de⟩ : Ix)]).map wix)))
   have l1 : (wnm nm.1 ++ cp " COLLATE " ++ wnm co.1).length ≤ cap := to_cap (wixA_len (x := ⟨nm, some co, de⟩))
   have l2 : (wnm nm.1 ++ cp " COLLATE " ++ wnm co.1 ++ deX de).length ≤ cap := to_cap (wix_len (x := ⟨nm, some co, de⟩))
   have l3 : (wnm nm.1 ++ cp " COLLATE ").length ≤ cap := to_cap (len_app (a := 8) (b := 9) wn_len (lbe rfl))
   cases de with
   | false => exact tl ((so "text", dS (wnm nm.1 ++ cp " COLLATE " ++ wnm co.1)) :: (so "text", dS (wnm nm.1)) :: ([(so "column", .d (ixD ⟨nm, some co, false⟩))] ++ (wkE m s.next (.lst (xs.map ixD)) ++ E))) (by exact rfl) (xs_on (Tr.v (e2) <| Tr.v (adds (x := (wnm nm.val)) (y := (cp " COLLATE ")) l3) <| Tr.v (e3) <| Tr.v (adds (x := (wnm nm.val ++ cp " COLLATE ")) (y := (wnm co.val)) l1) <| Tr.v (app_m (w3.g 0 rfl)) <| Tr.v (adds (x := (wnm nm.val ++ cp " COLLATE " ++ wnm co.val)) (y := []) l2) <| Tr.v (app_e (v := (.d (.str (wnm nm.val ++ cp " COLLATE " ++ wnm co.val ++ [])))) (w3.g 0 rfl) hn sn) <| Tr.ret _) (by kernel_rfl)) w4
   | true => exact tl ((so "text", dS (wnm nm.1 ++ cp " COLLATE " ++ wnm co.1)) :: (so "text", dS (wnm nm.1)) :: ([(so "column", .d (ixD ⟨nm, some co, true⟩))] ++ (wkE m s.next (.lst (xs.map ixD)) ++ E))) (by exact rfl) (xs_on (Tr.v (e2) <| Tr.v (adds (x := (wnm nm.val)) (y := (cp " COLLATE ")) l3) <| Tr.v (e3) <| Tr.v (adds (x := (wnm nm.val ++ cp " COLLATE ")) (y := (wnm co.val)) l1) <| Tr.v (app_m (w3.g 0 rfl)) <| Tr.v (adds (x := (wnm nm.val ++ cp " COLLATE " ++ wnm co.val)) (y := (cp " DESC")) l2) <| Tr.v (app_e (v := (.d (.str (wnm nm.val ++ cp " COLLATE " ++ wnm co.val ++ cp " DESC")))) (w3.g 0 rfl) hn sn) <| Tr.ret _) (by kernel_rfl)) w4
 ·have w1 := j.w
  have ee : dn = xs := (lan dn).symm.trans j.e
  subst ee
  have hB := map_le (l := dn) (f := wix) (B := 30) fun _ => wix_len
  have hs : ((dn.map wix).map (·.length)).sum + (dn.map wix).length * [44, 32].length ≤ cap := by
   refine nlt (Nat.add_le_add (sum_len _ hB) (nlr _)) ?_
   rw [← Nat.mul_add, llm]
   exact nlt (Nat.mul_le_mul_right _ hl) (by decide)
  have hj' := jn_len (dn.map wix) hB
  rw [llm] at hj'
  have hj' := nlt hj' (Nat.mul_le_mul_right _ hl)
  show Gv _ (dS ([40] ++ joinL [44, 32] (dn.map wix) ++ [41])) _ _ _
  refine gen (joinL [44, 32] (dn.map wix)) fun jj hj => ?_
  rw [hj] at hj' ⊢
  have l0 : jj.length ≤ cap := to_cap hj'
  have l1 := len_app (a := 1) (x := [40]) (nlr _) hj'
  have l1' := to_cap l1
  have l2 := to_cap (len_app (b := 1) (y := [41]) l1 (nlr _))
  exact w1.gv (.tr (Tr.v (mkl (l := (SL [])) (lbe rfl)) <| Tr.x (e2) <| Tr.v (sm_join (lof (w1.g 0 rfl)) hs hj l0) <| Tr.v (adds (x := [40]) (y := (jj)) l1') <| Tr.v (adds (x := ([40] ++ jj)) (y := [41]) l2) <| Tr.ret _) (by kernel_rfl))
end
noncomputable section
def wclA (c : Cl) : List Nat := match c.ty.1 with
 | none => wnm c.nm.1
 | some t => wnm c.nm.1 ++ [32] ++ wty t
def wtx (b : List Nat) (cs : List Cc) : List Nat := cs.foldl (fun a c => a ++ wcc c) b
def wcl (c : Cl) : List Nat := wtx (wclA c) c.cs
def tcU : Bool → List Nat
 | true => cp "PRIMARY KEY"
 | false => cp "UNIQUE"
def wtc (c : Tc) : List Nat := tcU c.pk ++ [32] ++ wks c.cols
noncomputable def wcE (m : Nat) (d : D) (x : List Nat) : EL := [(so "self", .ref m), (so "column", .d d), (so "text", dS x)]
end
structure Vg (m : Nat) (s : MSt) (b : List Nat) (cs r : List Cc) (a : List Cc × List Nat) (u : MSt) : Prop where
 w : Fw m (Is wrO) s [] u
 e : a.1 ++ r = cs
 t : a.2 = wtx b a.1
section
variable {n m : Nat} {s u : MSt} {xs : List Ix} {c : Cc} {cl' : Cl} {tc : Tc} {b : List Nat} {cs : List Cc}
theorem wcc_c (hm : s.objs m = wrO) (xl : m < s.next) : Gv (cl (n + 5) 675 [.ref m, .d (.str (ccA c)), .d (ccB c)] s) (dS (wcc c)) m (Is wrO) s := by
 have w := Fw.start (Q := Is wrO) xl hm
 cases c with
 | pk d =>
  cases d with
  | false => exact w.gv (.tr (Tr.v (eqs_t (x := (cp "primary key")) (y := (cp "primary key")) rfl) <| Tr.v (adds (x := (cp " PRIMARY KEY")) (y := []) (lbe rfl)) <| Tr.ret _) (by kernel_rfl))
  | true => exact w.gv (.tr (Tr.v (eqs_t (x := (cp "primary key")) (y := (cp "primary key")) rfl) <| Tr.v (adds (x := (cp " PRIMARY KEY")) (y := (cp " DESC")) (lbe rfl)) <| Tr.ret _) (by kernel_rfl))
 | nn => exact w.gv (.tr (Tr.v (eqs_f (x := (cp "not null")) (y := (cp "primary key")) (by decide)) <| Tr.v (eqs_f (x := (cp "not null")) (y := (cp "check")) (by decide)) <| Tr.v (eqs_f (x := (cp "not null")) (y := (cp "default")) (by decide)) <| Tr.v (eqs_f (x := (cp "not null")) (y := (cp "collate")) (by decide)) <| Tr.v (eqs_t (x := (cp "not null")) (y := (cp "not null")) rfl) <| Tr.ret _) (by kernel_rfl))
 | uq => exact w.gv (.tr (Tr.v (eqs_f (x := (cp "unique")) (y := (cp "primary key")) (by decide)) <| Tr.v (eqs_f (x := (cp "unique")) (y := (cp "check")) (by decide)) <| Tr.v (eqs_f (x := (cp "unique")) (y := (cp "default")) (by decide)) <| Tr.v (eqs_f (x := (cp "unique")) (y := (cp "collate")) (by decide)) <| Tr.v (eqs_f (x := (cp "unique")) (y := (cp "not null")) (by decide)) <| Tr.ret _) (by kernel_rfl))
 | co x =>
  refine (wn_q (n := n) (s := s) x.2).elim fun s1 e1 h1 => ?_
  have w1 := w.nt h1
  have l1 : (cp " COLLATE " ++ wnm x.1).length ≤ cap := to_cap (wcc_len (c := .co x))
  exact w1.gv (.tr (Tr.v (eqs_f (x := (cp "collate")) (y := (cp "primary key")) (by decide)) <| Tr.v (eqs_f (x := (cp "collate")) (y := (cp "check")) (by decide)) <| Tr.v (eqs_f (x := (cp "collate")) (y := (cp "default")) (by decide)) <| Tr.v (eqs_t (x := (cp "collate")) (y := (cp "collate")) rfl) <| Tr.v (e1) <| Tr.v (adds (x := (cp " COLLATE ")) (y := (wnm x.val)) l1) <| Tr.ret _) (by kernel_rfl))
theorem wks_len (hl : xs.length ≤ 2) : (wks xs).length ≤ 66 := by
 have z := jn_len (xs.map wix) (map_le (B := 30) fun _ => wix_len)
 rw [llm] at z
 exact len_app (b := 1) (len_app (a := 1) (b := 64) (nlr _) (nlt z (Nat.mul_le_mul_right _ hl))) (nlr _)
theorem wtc_c (hm : s.objs m = wrO) (xl : m < s.next) (hl : tc.cols.length ≤ 2) : Gv (cl (n + 6) 689 [.ref m, .d (tcD tc)] s) (dS (wtc tc)) m (Is wrO) s := by
 have w := Fw.start (Q := Is wrO) xl hm
 obtain ⟨pk, cols⟩ := tc
 refine (wk_c (n := n) (xs := cols) hm xl hl).elim fun s1 e1 m1 => ?_
 have w1 := w.mv m1
 have lk := wks_len (xs := cols) hl
 cases pk with
 | true =>
  have e2 : strMeth .upper (cp "primary key") [] s = .ok (dS (cp "PRIMARY KEY")) s := sm_upper_e (by kernel_rfl) (lbe rfl) (by kernel_rfl)
  have l0 : (cp "PRIMARY KEY" ++ [32]).length ≤ cap := lbe rfl
  have l1 : (cp "PRIMARY KEY" ++ [32] ++ wks cols).length ≤ cap := to_cap (len_app (a := 12) (b := 66) (lbe rfl) lk)
  exact w1.gv (.tr (Tr.v (eqs_f (x := (cp "primary key")) (y := (cp "check")) (by decide)) <| Tr.v (e2) <| Tr.v (adds (x := (cp "PRIMARY KEY")) (y := [32]) l0) <| Tr.v (mth_of (a := (so "keys")) (f := 668) w.q (by kernel_rfl)) <| Tr.v (e1) <| Tr.v (adds (x := (cp "PRIMARY KEY ")) (y := (wks cols)) l1) <| Tr.ret _) (by kernel_rfl))
 | false =>
  have e2 : strMeth .upper (cp "unique") [] s = .ok (dS (cp "UNIQUE")) s := sm_upper_e (by kernel_rfl) (lbe rfl) (by kernel_rfl)
  have l0 : (cp "UNIQUE" ++ [32]).length ≤ cap := lbe rfl
  have l1 : (cp "UNIQUE" ++ [32] ++ wks cols).length ≤ cap := to_cap (len_app (a := 7) (b := 66) (lbe rfl) lk)
  exact w1.gv (.tr (Tr.v (eqs_f (x := (cp "unique")) (y := (cp "check")) (by decide)) <| Tr.v (e2) <| Tr.v (adds (x := (cp "UNIQUE")) (y := [32]) l0) <| Tr.v (mth_of (a := (so "keys")) (f := 668) w.q (by kernel_rfl)) <| Tr.v (e1) <| Tr.v (adds (x := (cp "UNIQUE ")) (y := (wks cols)) l1) <| Tr.ret _) (by kernel_rfl))
theorem wtx_snoc {dn : List Cc} : wtx b (dn ++ [c]) = wtx b dn ++ wcc c := List.foldl_append ..
theorem wtx_len {k : Nat} : ∀ (cs : List Cc) (b : List Nat), b.length ≤ k → (wtx b cs).length ≤ k + cs.length * 17
 | [], _, h => by rw [show ([] : List Cc).length * 17 = 0 from rfl]; exact h
 | c :: cs, b, h => by
  have z := wtx_len cs (b ++ wcc c) (len_app h wcc_len)
  rw [llc, Nat.succ_mul, Nat.add_comm (cs.length * 17), ← Nat.add_assoc]
  exact z
theorem wclA_len {c : Cl} : (wclA c).length ≤ 27 := by
 obtain ⟨nm, ⟨ty, h⟩, cs⟩ := c
 cases ty with
 | none => exact nlt wn_len (by decide)
 | some t => exact len_app (a := 9) (b := 18) (len_app (a := 8) (b := 1) wn_len (nlr _)) (wt_lex h).2
theorem wcl_go (hm : s.objs m = wrO) (xl : m < s.next) : ∃ u, exs (cN KK (n + 5)) (fS 682) ((fB 682).take 2) (lk [(so "self", .ref m), (so "column", .d (clD cl'))]) s = .ok (.next, lk [(so "text", dS (wclA cl')), (so "self", .ref m), (so "column", .d (clD cl'))]) u ∧ Fw m (Is wrO) s [] u := by
 have w := Fw.start (Q := Is wrO) xl hm
 obtain ⟨nm, ⟨ty, h⟩, cs⟩ := cl'
 refine (wn_q (n := n + 1) (s := s) nm.2).elim fun s1 e1 h1 => ?_
 have w1 := w.nt h1
 cases ty with
 | none => exact ⟨s1, xs_on (Tr.v (e1) <| Tr.ret _) (by kernel_rfl), w1⟩
 | some t =>
  refine (wt_q (n := n) (s := s1) h).elim fun s2 e2 h2 => ?_
  have w2 := w1.nt h2
  have l1 : (wnm nm.1 ++ [32]).length ≤ cap := to_cap (len_app (a := 8) (b := 1) wn_len (nlr _))
  have l2 : (wnm nm.1 ++ [32] ++ wty t).length ≤ cap := to_cap (wclA_len (c := ⟨nm, ⟨some t, h⟩, cs⟩))
  have e : exs (cN KK (n + 5)) (fS 682) ((fB 682).take 2) (lk [(so "self", .ref m), (so "column", .d (clD ⟨nm, ⟨some t, h⟩, cs⟩))]) s = .ok (.next, lk ((so "text", dS (wnm nm.1 ++ [32] ++ wty t)) :: (so "text", dS (wnm nm.1)) :: [(so "self", .ref m), (so "column", .d (clD ⟨nm, ⟨some t, h⟩, cs⟩))])) s2 := xs_on (Tr.v (e1) <| Tr.v (adds (x := (wnm nm.val)) (y := [32]) l1) <| Tr.v (e2) <| Tr.v (adds (x := (wnm nm.val ++ [32])) (y := (wty t)) l2) <| Tr.ret _) (by kernel_rfl)
  rw [lk_dup] at e
  exact ⟨s2, e, w2⟩
theorem wcl_c (hm : s.objs m = wrO) (xl : m < s.next) (hl : ClOk cl') : Gv (cl (n + 6) 682 [.ref m, .d (clD cl')] s) (dS (wcl cl')) m (Is wrO) s := by
 refine (wcl_go (n := n) (cl' := cl') hm xl).elim fun s1 h => ?_
 have e1 := h.1
 have w1 := h.2
 have hl := hl.l
 have w := Fw.start (Q := Is wrO) xl hm
 refine (for_run (c := cN KK (n + 5)) (sc := fS 682) (t := (lpP (stAt 682 2)).1) (b := (lpP (stAt 682 2)).2) (rg := false) (v := .d (.lst (cl'.cs.map ccRow))) (s := s1) (s0 := s1) (l := cl'.cs) (it := fun c => .d (ccRow c)) (bd := fun c => [(so "detail", .d (ccB c)), (so "word", .d (.str (ccA c)))]) (E := [(so "text", dS (wclA cl')), (so "self", .ref m), (so "column", .d (clD cl'))]) (pre := fun a => wcE m (clD cl') a.2) (I := Vg m s (wclA cl') cl'.cs) (a := ([], wclA cl'))
  (it_d.trans (by rw [List.map_map]; rfl)) (fun c E => ?_) ?_ (by exact rfl) ⟨w1, rfl, rfl⟩).elim fun dn E u e2 j => ?_
 ·have z : ∀ le, bindFor (fS 682) (lpP (stAt 682 2)).1 (.d (.tup [.str (ccA c), ccB c])) le = some ((le.set (so "word") (.d (.str (ccA c)))).set (so "detail") (.d (ccB c))) := fun le => by kernel_rfl
  show bindFor _ _ (.d (ccRow c)) _ = _
  rw [cc_eq, z]
  exact congrArg some ((lk_set _ _ _).trans (congrArg (fun f : LEnv => f.set _ _) (lk_set _ _ _))).symm
 ·intro c r a E u I
  obtain ⟨dn, x⟩ := a
  have w2 := I.w
  have he := I.e
  have ht : x = wtx (wclA cl') dn := I.t
  refine (wcc_c (n := n) (c := c) w2.q w2.x_lt).elim fun s2 e3 m3 => ?_
  have w3 := w2.mv m3
  have l1 : (x ++ wcc c).length ≤ cap := by
   have z := wtx_len (k := 27) (dn ++ [c]) (wclA cl') wclA_len
   rw [wtx_snoc, ← ht] at z
   refine nlt z (nlt (Nat.add_le_add_left (Nat.mul_le_mul_right _ (nlt ?_ hl)) _) (lbe rfl))
   rw [← he, show dn ++ c :: r = dn ++ [c] ++ r from (List.append_cons ..), lla (as := dn ++ [c]) (bs := r)]; exact nla _ _
  exact ⟨(dn ++ [c], x ++ wcc c), (so "text", dS (x ++ wcc c)) :: ([(so "detail", .d (ccB c)), (so "word", .d (.str (ccA c)))] ++ (wcE m (clD cl') x ++ E)), _, xs_on (Tr.v (mth_of (a := (so "column_constraint")) (f := 675) w2.q (by kernel_rfl)) <| Tr.v (e3) <| Tr.v (adds (x := (x)) (y := (wcc c)) l1) <| Tr.ret _) (by kernel_rfl), (by exact rfl), ⟨w3, by rw [lap]; exact he, by rw [wtx_snoc, ← ht]⟩⟩
 ·obtain ⟨dn, x⟩ := dn
  have w2 := j.w
  have ee : dn = cl'.cs := (lan dn).symm.trans j.e
  have ht : x = wtx (wclA cl') dn := j.t
  rw [ee] at ht
  subst ht
  exact w2.gv (.xv (xv_then 2 e1 (xv_run (Tr.x (e2) <| Tr.ret _) (by kernel_rfl))))
end
noncomputable section
def miX : Bool → List Nat
 | true => cp "IF NOT EXISTS "
 | false => []
def unX : Bool → List Nat
 | true => cp "UNIQUE "
 | false => []
def wpt (cls : List Cl) (tcs : List Tc) : List (List Nat) := cls.map wcl ++ tcs.map wtc
def wtb (mi : Bool) (nm : Na) (cls : List Cl) (tcs : List Tc) : List Nat := cp "CREATE TABLE " ++ miX mi ++ wnm nm.1 ++ cp " (" ++ joinL [44, 32] (wpt cls tcs) ++ [41]
def iaX (un mi : Bool) : List Nat := cp "CREATE " ++ unX un ++ cp "INDEX " ++ miX mi
def wid (nm tb : Na) (xs : List Ix) (un mi : Bool) : List Nat := iaX un mi ++ wnm nm.1 ++ cp " ON " ++ wnm tb.1 ++ [32] ++ wks xs
end
section
variable {n m : Nat} {s u : MSt} {xs : List Ix} {x : List Nat} {nm tb : Na} {cls : List Cl} {tcs : List Tc} {mi un : Bool}
theorem a2_map {α β : Type} {f : α → β} : ∀ {l : List α} {bs : List β}, All2 (fun a b => b = f a) l bs → bs = l.map f
 | [], _, h => by cases h; rfl
 | a :: l, _, h => by
  cases h with | mk b m e h t => rw [e, h, a2_map t]; rfl
theorem wcp {α : Type} {P : α → Prop} {g : α → D} {f : α → List Nat} {l : List α} {e : Expr} {cs : Scope} {E : EL} {y : Str} {c : Cfg} (hm : s.objs m = wrO) (xl : m < s.next) (hp : ∀ a ∈ l, P a) (hl : l.length ≤ 2) (step : ∀ a u, P a → u.objs m = wrO → m < u.next → Gv (ev c e cs (lk (cE cs E y (.d (g a)))) u) (dS (f a)) m (Is wrO) u) :
  ∃ u, cpM c e cs E y (.d (.lst (l.map g))) s = .ok (.ref u.next) (nw u (.list (SL (l.map f)))) ∧ Mv m (Is wrO) s u := by
 have ea : ∀ {β : Type} (f : α → β), (l.attachWith P hp).map (fun a => f a.1) = l.map f := fun f => by
  show (l.attachWith P hp).map (f ∘ Subtype.val) = _
  rw [← List.map_map, List.attachWith_map_subtype_val]
 have hlc : (l.attachWith P hp).length ≤ cap := List.length_attachWith (H := hp) ▸ to_cap hl
 refine (cp_run (α := {a // P a}) (l := l.attachWith P hp) (c := c) (e := e) (cs := cs) (y := y) (E := E) (h := .str) (g := fun a => g a.1) (R := fun a b => b = f a.1) (x := m) (Q := Is wrO) (t := s) (t0 := s) (iv := .d (.lst ((l.attachWith P hp).map fun a => g a.1))) rfl xl hm hlc fun a u xl q =>
  (step a.1 u a.2 q xl).elim fun s1 e1 m1 => ⟨_, s1, e1, m1, rfl⟩).elim fun bs s1 e1 m1 p1 => ?_
 have eb := (a2_map p1).trans (ea f)
 subst eb
 rw [ea g] at e1
 exact ⟨s1, e1, m1⟩
theorem wpt_len (hc : cls.length ≤ 2) (hc' : ∀ c ∈ cls, ClOk c) (ht : tcs.length ≤ 1) (ht' : ∀ c ∈ tcs, TcOk c) : (wpt cls tcs).length ≤ 3 ∧ ∀ w ∈ wpt cls tcs, w.length ≤ 153027 := by
 refine ⟨?_, fun w hw => (List.mem_append.mp hw).elim (fun h => (List.mem_map.mp h).elim fun c z => ?_) fun h => (List.mem_map.mp h).elim fun c z => ?_⟩
 ·unfold wpt
  rw [lla, llm, llm]; exact Nat.add_le_add hc ht
 ·rw [← z.2]
  exact nlt (wtx_len (k := 27) _ _ wclA_len) (Nat.add_le_add_left (Nat.mul_le_mul_right _ (hc' c z.1).l) _)
 ·rw [← z.2]
  have y : (tcU c.pk).length ≤ 11 := by cases c.pk <;> exact lbe rfl
  exact nlt (len_app (a := 12) (b := 66) (len_app (a := 11) (b := 1) y (nlr _)) (wks_len (ht' c z.1).l)) (by decide)
theorem wtb_c (hm : s.objs m = wrO) (xl : m < s.next) (hc : cls.length ≤ 2) (hc' : ∀ c ∈ cls, ClOk c) (ht : tcs.length ≤ 1) (ht' : ∀ c ∈ tcs, TcOk c) : Gv (cl (n + 7) 694 [.ref m, .d (nodeD x (.table mi nm cls tcs))] s) (dS (wtb mi nm cls tcs)) m (Is wrO) s := by
 have w := Fw.start (Q := Is wrO) xl hm
 refine (wcp (l := cls) (g := clD) (f := wcl) (c := cN KK (n + 6)) (e := cpE (vOf (stAt 694 0))) (cs := cpS (vOf (stAt 694 0))) (E := [(so "self", .ref m), (so "node", .d (nodeD x (.table mi nm cls tcs)))]) (y := so "column") hm xl hc' hc fun a u ha hu xu => ?_).elim fun s1 z => ?_
 ·have w := Fw.start (Q := Is wrO) xu hu
  refine (wcl_c (n := n) (cl' := a) hu xu ha).elim fun s1 e1 m1 => ?_
  have w1 := w.mv m1
  exact ⟨s1, ev_run (Tr.v (mth_of (a := (so "column_def")) (f := 682) w.q (by kernel_rfl)) <| Tr.v (e1) <| Tr.ret _) (by kernel_rfl), m1⟩
 have e1 := z.1
 have w1 := (w.mv z.2).nw (.list (SL (cls.map wcl)))
 refine (wcp (l := tcs) (g := tcD) (f := wtc) (s := nw s1 (.list (SL (cls.map wcl)))) (c := cN KK (n + 6)) (e := cpE (rOf (vOf (stAt 694 1)))) (cs := cpS (rOf (vOf (stAt 694 1)))) (E := [(so "parts", .ref s1.next), (so "self", .ref m), (so "node", .d (nodeD x (.table mi nm cls tcs)))]) (y := so "constraint") w1.q w1.x_lt ht' (Nat.le_succ_of_le ht) fun a u ha hu xu => ?_).elim fun s2 z2 => ?_
 ·have w := Fw.start (Q := Is wrO) xu hu
  refine (wtc_c (n := n) (tc := a) hu xu ha.l).elim fun s1 e1 m1 => ?_
  have w1 := w.mv m1
  exact ⟨s1, ev_run (Tr.v (mth_of (a := (so "table_constraint")) (f := 689) w.q (by kernel_rfl)) <| Tr.v (e1) <| Tr.ret _) (by kernel_rfl), m1⟩
 have e2 := z2.1
 have w2 := (w1.mv z2.2).nw (.list (SL (tcs.map wtc)))
 have hw := wpt_len hc hc' ht ht'
 have h3 : (cls.map wcl ++ tcs.map wtc).length ≤ cap := to_cap hw.1
 have w3 := w2.nw (.list (SL (wpt cls tcs)))
 refine (wn_q (n := n + 2) (s := nw (nw s2 (.list (SL (tcs.map wtc)))) (.list (SL (wpt cls tcs)))) nm.2).elim fun s4 e4 h4 => ?_
 have w4 := w3.nt h4
 have hs : ((wpt cls tcs).map (·.length)).sum + (wpt cls tcs).length * [44, 32].length ≤ cap := by
  refine nlt (Nat.add_le_add (sum_len _ hw.2) (nlr _)) ?_
  rw [← Nat.mul_add]
  exact nlt (Nat.mul_le_mul_right _ hw.1) (lbe rfl)
 have hj' := nlt (jn_len _ hw.2) (Nat.mul_le_mul_right _ hw.1)
 show Gv _ (dS (cp "CREATE TABLE " ++ miX mi ++ wnm nm.1 ++ cp " (" ++ joinL [44, 32] (wpt cls tcs) ++ [41])) _ _ _
 refine gen (joinL [44, 32] (wpt cls tcs)) fun jj hj => ?_
 rw [hj] at hj' ⊢
 have hj' : jj.length ≤ 459087 := hj'
 have l0 : jj.length ≤ cap := to_cap hj'
 have y : (miX mi).length ≤ 14 := by cases mi <;> exact lbe rfl
 have l1 := len_app (a := 13) (x := cp "CREATE TABLE ") (lbe rfl) y
 have l1' := to_cap l1
 have l2 := len_app l1 (wn_len (x := nm))
 have l2' := to_cap l2
 have l3 := len_app (b := 2) (y := cp " (") l2 (lbe rfl)
 have l3' := to_cap l3
 have l4 := len_app l3 hj'
 have l4' := to_cap l4
 have l5' := to_cap (len_app (b := 1) (y := [41]) l4 (nlr _))
 cases mi with
 | false => exact w4.gv (.tr (Tr.v (e1) <| Tr.v (e2) <| Tr.v (addw (x := (List.map wcl cls)) (y := (List.map wtc tcs)) (lof (w2.g 1 rfl)) (lof (w2.g 0 rfl)) h3) <| Tr.v (adds (x := (cp "CREATE TABLE ")) (y := []) l1') <| Tr.v (e4) <| Tr.v (adds (x := (cp "CREATE TABLE ")) (y := (wnm nm.val)) l2') <| Tr.v (adds (x := (cp "CREATE TABLE " ++ wnm nm.val)) (y := (cp " (")) l3') <| Tr.v (sm_join (lof (w4.g 0 rfl)) hs hj l0) <| Tr.v (adds (x := (cp "CREATE TABLE " ++ wnm nm.val ++ cp " (")) (y := (jj)) l4') <| Tr.v (adds (x := (cp "CREATE TABLE " ++ wnm nm.val ++ cp " (" ++ jj)) (y := [41]) l5') <| Tr.ret _) (by kernel_rfl))
 | true => exact w4.gv (.tr (Tr.v (e1) <| Tr.v (e2) <| Tr.v (addw (x := (List.map wcl cls)) (y := (List.map wtc tcs)) (lof (w2.g 1 rfl)) (lof (w2.g 0 rfl)) h3) <| Tr.v (adds (x := (cp "CREATE TABLE ")) (y := (cp "IF NOT EXISTS ")) l1') <| Tr.v (e4) <| Tr.v (adds (x := (cp "CREATE TABLE IF NOT EXISTS ")) (y := (wnm nm.val)) l2') <| Tr.v (adds (x := (cp "CREATE TABLE IF NOT EXISTS " ++ wnm nm.val)) (y := (cp " (")) l3') <| Tr.v (sm_join (lof (w4.g 0 rfl)) hs hj l0) <| Tr.v (adds (x := (cp "CREATE TABLE IF NOT EXISTS " ++ wnm nm.val ++ cp " (")) (y := (jj)) l4') <| Tr.v (adds (x := (cp "CREATE TABLE IF NOT EXISTS " ++ wnm nm.val ++ cp " (" ++ jj)) (y := [41]) l5') <| Tr.ret _) (by kernel_rfl))
end
noncomputable section
def exX : Bool → List Nat
 | true => cp " IF EXISTS "
 | false => [32]
def wst : Sm → List Nat
 | .table mi nm cls tcs => wtb mi nm cls tcs
 | .index nm tb xs un mi => wid nm tb xs un mi
 | .drop ix nm ex => cp "DROP " ++ drT ix ++ exX ex ++ wnm nm.1
end
section
variable {n m a : Nat} {s u : MSt} {xs : List Ix} {x : List Nat} {nm tb : Na} {mi un : Bool} {st : Sm}
theorem ia_c (hm : s.objs m = wrO) (xl : m < s.next) : exs (cN KK (n + 5)) (fS 701) ((fB 701).take 2) (lk [(so "self", .ref m), (so "node", .d (nodeD x (.index nm tb xs un mi)))]) s = .ok (.next, lk [(so "ahead", dS (iaX un mi)), (so "self", .ref m), (so "node", .d (nodeD x (.index nm tb xs un mi)))]) s := by
 have w := Fw.start (Q := Is wrO) xl hm
 have q : ∀ {a b : List Nat} {E : EL}, exs (cN KK (n + 5)) (fS 701) ((fB 701).take 2) (lk E) s = .ok (.next, lk ((so "ahead", dS b) :: (so "ahead", dS a) :: E)) s → exs (cN KK (n + 5)) (fS 701) ((fB 701).take 2) (lk E) s = .ok (.next, lk ((so "ahead", dS b) :: E)) s := fun e => by rw [lk_dup] at e; exact e
 cases un with
 | false => cases mi with
  | false => exact q (a := cp "CREATE INDEX ") (xs_on (Tr.v (adds (x := (cp "CREATE ")) (y := []) (lbe rfl)) <| Tr.v (adds (x := (cp "CREATE ")) (y := (cp "INDEX ")) (lbe rfl)) <| Tr.v (adds (x := (cp "CREATE INDEX ")) (y := []) (lbe rfl)) <| Tr.ret _) (by kernel_rfl))
  | true => exact q (a := cp "CREATE INDEX ") (xs_on (Tr.v (adds (x := (cp "CREATE ")) (y := []) (lbe rfl)) <| Tr.v (adds (x := (cp "CREATE ")) (y := (cp "INDEX ")) (lbe rfl)) <| Tr.v (adds (x := (cp "CREATE INDEX ")) (y := (cp "IF NOT EXISTS ")) (lbe rfl)) <| Tr.ret _) (by kernel_rfl))
 | true => cases mi with
  | false => exact q (a := cp "CREATE UNIQUE INDEX ") (xs_on (Tr.v (adds (x := (cp "CREATE ")) (y := (cp "UNIQUE ")) (lbe rfl)) <| Tr.v (adds (x := (cp "CREATE UNIQUE ")) (y := (cp "INDEX ")) (lbe rfl)) <| Tr.v (adds (x := (cp "CREATE UNIQUE INDEX ")) (y := []) (lbe rfl)) <| Tr.ret _) (by kernel_rfl))
  | true => exact q (a := cp "CREATE UNIQUE INDEX ") (xs_on (Tr.v (adds (x := (cp "CREATE ")) (y := (cp "UNIQUE ")) (lbe rfl)) <| Tr.v (adds (x := (cp "CREATE UNIQUE ")) (y := (cp "INDEX ")) (lbe rfl)) <| Tr.v (adds (x := (cp "CREATE UNIQUE INDEX ")) (y := (cp "IF NOT EXISTS ")) (lbe rfl)) <| Tr.ret _) (by kernel_rfl))
theorem ia_len : (iaX un mi).length ≤ 34 := by
 cases un <;> cases mi <;> exact lbe rfl
theorem wid_c (hm : s.objs m = wrO) (xl : m < s.next) (hl : xs.length ≤ 2) : Gv (cl (n + 6) 701 [.ref m, .d (nodeD x (.index nm tb xs un mi))] s) (dS (wid nm tb xs un mi)) m (Is wrO) s := by
 have w := Fw.start (Q := Is wrO) xl hm
 have e0 := ia_c (n := n) (x := x) (nm := nm) (tb := tb) (xs := xs) (un := un) (mi := mi) hm xl
 refine (wn_q (n := n + 1) (s := s) nm.2).elim fun s1 e1 h1 => ?_
 have w1 := w.nt h1
 refine (wn_q (n := n + 1) (s := s1) tb.2).elim fun s2 e2 h2 => ?_
 have w2 := w1.nt h2
 refine (wk_c (n := n) w2.q w2.x_lt hl).elim fun s3 e3 m3 => ?_
 have w3 := w2.mv m3
 have l1 := len_app (ia_len (un := un) (mi := mi)) (wn_len (x := nm))
 have l1' := to_cap l1
 have l2 := len_app (b := 4) (y := cp " ON ") l1 (lbe rfl)
 have l2' := to_cap l2
 have l3 := len_app l2 (wn_len (x := tb))
 have l3' := to_cap l3
 have l4 := len_app (b := 1) (y := [32]) l3 (nlr _)
 have l4' := to_cap l4
 have l5' := to_cap (len_app l4 (wks_len hl))
 exact w3.gv (.xv (xv_then 2 e0 (xv_run (Tr.v (e1) <| Tr.v (adds (x := (iaX un mi)) (y := (wnm nm.val)) l1') <| Tr.v (adds (x := (iaX un mi ++ wnm nm.val)) (y := (cp " ON ")) l2') <| Tr.v (e2) <| Tr.v (adds (x := (iaX un mi ++ wnm nm.val ++ cp " ON ")) (y := (wnm tb.val)) l3') <| Tr.v (adds (x := (iaX un mi ++ wnm nm.val ++ cp " ON " ++ wnm tb.val)) (y := [32]) l4') <| Tr.v (mth_of (a := (so "keys")) (f := 668) w2.q (by kernel_rfl)) <| Tr.v (e3) <| Tr.v (adds (x := (iaX un mi ++ wnm nm.val ++ cp " ON " ++ wnm tb.val ++ [32])) (y := (wks xs)) l5') <| Tr.ret _) (by kernel_rfl))))
theorem wst_c (hm : s.objs m = wrO) (xl : m < s.next) (hx : SmOk st) : Gv (cl (n + 8) 661 [.ref m, .d (nodeD x st)] s) (dS (wst st)) m (Is wrO) s := by
 have w := Fw.start (Q := Is wrO) xl hm
 cases st with
 | table mi nm cls tcs =>
  have i1 : callBi T0 "isinstance" [.d (nodeD x (.table mi nm cls tcs)), .d (.glob 194)] s = .ok (.d (.bool true)) s := by kernel_rfl
  refine (wtb_c (n := n) (x := x) (mi := mi) (nm := nm) hm xl hx.1.1 hx.1.2 hx.2.1 hx.2.2).elim fun s1 e1 m1 => ?_
  have w1 := w.mv m1
  exact w1.gv (.tr (Tr.v (i1) <| Tr.v (mth_of (a := (so "create_table")) (f := 694) w.q (by kernel_rfl)) <| Tr.v (e1) <| Tr.ret _) (by kernel_rfl))
 | index nm tb xs un mi =>
  have i1 : callBi T0 "isinstance" [.d (nodeD x (.index nm tb xs un mi)), .d (.glob 194)] s = .ok (.d (.bool false)) s := by kernel_rfl
  have i2 : callBi T0 "isinstance" [.d (nodeD x (.index nm tb xs un mi)), .d (.glob 220)] s = .ok (.d (.bool true)) s := by kernel_rfl
  refine (wid_c (n := n + 1) (x := x) (nm := nm) (tb := tb) (un := un) (mi := mi) hm xl hx).elim fun s1 e1 m1 => ?_
  have w1 := w.mv m1
  exact w1.gv (.tr (Tr.v (i1) <| Tr.v (i2) <| Tr.v (mth_of (a := (so "create_index")) (f := 701) w.q (by kernel_rfl)) <| Tr.v (e1) <| Tr.ret _) (by kernel_rfl))
 | drop ix nm ex =>
  have i1 : callBi T0 "isinstance" [.d (nodeD x (.drop ix nm ex)), .d (.glob 194)] s = .ok (.d (.bool false)) s := by kernel_rfl
  have i2 : callBi T0 "isinstance" [.d (nodeD x (.drop ix nm ex)), .d (.glob 220)] s = .ok (.d (.bool false)) s := by kernel_rfl
  refine (wn_q (n := n + 3) (s := s) nm.2).elim fun s1 e1 h1 => ?_
  have w1 := w.nt h1
  have eu : strMeth .upper (cp "index") [] s = .ok (dS (cp "INDEX")) s := sm_upper_e (by kernel_rfl) (lbe rfl) (by kernel_rfl)
  have ev : strMeth .upper (cp "table") [] s = .ok (dS (cp "TABLE")) s := sm_upper_e (by kernel_rfl) (lbe rfl) (by kernel_rfl)
  have y : (cp "DROP " ++ drT ix ++ exX ex).length ≤ 21 := by cases ix <;> cases ex <;> exact lbe rfl
  have l1 := to_cap (len_app y (wn_len (x := nm)))
  cases ix with
  | true => cases ex with
   | true => exact w1.gv (.tr (Tr.v (i1) <| Tr.v (i1) <| Tr.v (eu) <| Tr.v (adds (x := (cp "DROP ")) (y := (cp "INDEX")) (lbe rfl)) <| Tr.v (adds (x := (cp "DROP INDEX")) (y := (cp " IF EXISTS ")) (lbe rfl)) <| Tr.v (e1) <| Tr.v (adds (x := (cp "DROP INDEX IF EXISTS ")) (y := (wnm nm.val)) l1) <| Tr.ret _) (by kernel_rfl))
   | false => exact w1.gv (.tr (Tr.v (i1) <| Tr.v (i1) <| Tr.v (eu) <| Tr.v (adds (x := (cp "DROP ")) (y := (cp "INDEX")) (lbe rfl)) <| Tr.v (adds (x := (cp "DROP INDEX")) (y := [32]) (lbe rfl)) <| Tr.v (e1) <| Tr.v (adds (x := (cp "DROP INDEX ")) (y := (wnm nm.val)) l1) <| Tr.ret _) (by kernel_rfl))
  | false => cases ex with
   | true => exact w1.gv (.tr (Tr.v (i1) <| Tr.v (i1) <| Tr.v (ev) <| Tr.v (adds (x := (cp "DROP ")) (y := (cp "TABLE")) (lbe rfl)) <| Tr.v (adds (x := (cp "DROP TABLE")) (y := (cp " IF EXISTS ")) (lbe rfl)) <| Tr.v (e1) <| Tr.v (adds (x := (cp "DROP TABLE IF EXISTS ")) (y := (wnm nm.val)) l1) <| Tr.ret _) (by kernel_rfl))
   | false => exact w1.gv (.tr (Tr.v (i1) <| Tr.v (i1) <| Tr.v (ev) <| Tr.v (adds (x := (cp "DROP ")) (y := (cp "TABLE")) (lbe rfl)) <| Tr.v (adds (x := (cp "DROP TABLE")) (y := [32]) (lbe rfl)) <| Tr.v (e1) <| Tr.v (adds (x := (cp "DROP TABLE ")) (y := (wnm nm.val)) l1) <| Tr.ret _) (by kernel_rfl))
theorem init_654 (hm : a < s.next) (h : s.objs a = .inst 704 []) : Fr (cl (n + 1) 654 [.ref a, .d .none] s) (.d .none) a (Is wrO) s [] := by
 have w0 := Fw.start (Q := Is (.inst 704 [])) hm h
 have w1 := w0.px (Q' := Is wrO) rfl
 exact ⟨_, Ends.toK (.tr (Tr.v (sa_of (a := (so "expressions")) (v := (.d .none)) (o := (wrO)) w0.q (by kernel_rfl) rfl (by kernel_rfl)) <| Tr.ret _) (by kernel_rfl)), w1⟩
end
section
variable {u v : List Nat} {a b ts tr : List Tk} {x : Ix} {xs : List Ix} {c : Cl} {cs : List Cc} {tc : Tc} {st : Sm} {k0 k1 : List Nat}
noncomputable def litB (ks : List (List Nat)) : Bool := ks.all fun k => btB k (.key k)
noncomputable def lit : List (List Nat) → List Nat
 | [] => []
 | k :: ks => k ++ [32] ++ lit ks
theorem lit_f : ∀ ks : List (List Nat), litB ks = true → LexF (lit ks) (ks.map .key)
 | [], _ => LexF.nil
 | k :: ks, h => by
  have z := (Bool.and_eq_true _ _).mp h
  exact ((lx_bare z.1).f lx_bl rfl nofun).catF (lit_f ks z.2)
def Wrt {α : Type} (R : α → List Tk → Prop) (f : α → List Nat) (x : α) : Prop := ∃ t, R x t ∧ LexU (f x) t
theorem lx_key {k : List Nat} (h : btB k (.key k) = true) : LexU k [.key k] := lx_bare h
theorem de_w {d : Bool} : ∃ t, DeT d t ∧ LexU (deX d) t ∧ sepB (deX d) = true := by
 cases d with
 | true => exact ⟨_, .d, lx_bl.cat (lx_key (k := cp "DESC") (by kernel_rfl)), rfl⟩
 | false => exact ⟨_, .n, LexU.nil, rfl⟩
theorem co_f : LexF (cp " COLLATE ") [tk "COLLATE"] := lx_bl.catF (lit_f [cp "COLLATE"] (by kernel_rfl))
theorem ix_w : Wrt IxT wix x := by
 obtain ⟨nm, co, de⟩ := x
 refine (de_w (d := de)).elim fun t z => ?_
 cases co with
 | none => exact ⟨_, .mk z.1, (wn_lex nm.2).1.cat z.2.1 z.2.2⟩
 | some co => exact ⟨_, .mk z.1, (((wn_lex nm.2).1.f co_f rfl nofun).cat (wn_lex co.2).1).cat z.2.1 z.2.2⟩
noncomputable def flX : List (List Nat) → List Nat
 | [] => []
 | w :: ws => [44, 32] ++ w ++ flX ws
theorem jn_fl : ∀ (ws : List (List Nat)) (w : List Nat), joinL [44, 32] (w :: ws) = w ++ flX ws
 | [], w => (lan w).symm
 | v :: ws, w => by
  show w ++ [44, 32] ++ joinL [44, 32] (v :: ws) = w ++ ([44, 32] ++ v ++ flX ws)
  rw [jn_fl ws v, lap, lap]
theorem flX_app : ∀ (ws vs : List (List Nat)), flX (ws ++ vs) = flX ws ++ flX vs
 | [], _ => rfl
 | w :: ws, vs => by
  show [44, 32] ++ w ++ flX (ws ++ vs) = [44, 32] ++ w ++ flX ws ++ flX vs
  rw [flX_app ws vs]; exact (lap ..).symm
theorem flX_sep : ∀ ws : List (List Nat), sepB (flX ws) = true
 | [] => rfl
 | _ :: _ => rfl
theorem co44 : LexF [44, 32] [.sg 44] := (lx_sg rfl).catF lx_bl
theorem fl_w {α : Type} {R : α → List Tk → Prop} {f : α → List Nat} {xs : List α} (hR : ∀ x ∈ xs, Wrt R f x) : ∃ t, FlT R xs t ∧ LexU (flX (xs.map f)) t := by
 induction xs with
 | nil => exact ⟨_, .nil, LexU.nil⟩
 | cons x xs ih =>
  refine (hR x (.head _)).elim fun t z => (ih fun y h => hR y (.tail _ h)).elim fun t' z' => ?_
  exact ⟨_, .cons z.1 z'.1, (co44.cat z.2).cat z'.2 (flX_sep _)⟩
theorem cs_w (h : xs ≠ []) (hl : xs.length ≤ 2) : Wrt CsT wks xs := by
 cases xs with
 | nil => exact absurd rfl h
 | cons x xs =>
  refine (ix_w (x := x)).elim fun t z => (fl_w (xs := xs) fun _ _ => ix_w).elim fun t' z' => ?_
  refine ⟨.sg 40 :: ((t ++ t') ++ [.sg 41]), .mk (.cons z.1 z'.1) hl, ?_⟩
  show LexU ([40] ++ joinL [44, 32] (wix x :: xs.map wix) ++ [41]) _
  rw [jn_fl]
  exact (LexF.cat (lx_sg (c := 40) rfl) (z.2.cat z'.2 (flX_sep _))).cat (lx_sg (c := 41) rfl).toU rfl
theorem cr_w (c : Cc) : ∃ t, CrT c t ∧ LexU (wcc c) t ∧ sepB (wcc c) = true := by
 cases c with
 | pk d =>
  refine (de_w (d := d)).elim fun t z => ⟨_, .pk z.1, ?_, rfl⟩
  exact ((lx_bl.catF (lit_f [cp "PRIMARY"] (by kernel_rfl))).cat (lx_key (k := cp "KEY") (by kernel_rfl))).cat z.2.1 z.2.2
 | nn => exact ⟨_, .nn, (lx_bl.catF (lit_f [cp "NOT"] (by kernel_rfl))).cat (lx_key (k := cp "NULL") (by kernel_rfl)), rfl⟩
 | uq => exact ⟨_, .uq, lx_bl.cat (lx_key (k := cp "UNIQUE") (by kernel_rfl)), rfl⟩
 | co n => exact ⟨_, .co, co_f.cat (wn_lex n.2).1, rfl⟩
theorem ccs_w : ∀ (cs : List Cc) {u : List Nat} {a : List Tk}, LexU u a → ∃ t, CcsT cs t ∧ LexU (wtx u cs) (a ++ t)
 | [], _, a, h => ⟨[], .nil, (lan a).symm ▸ h⟩
 | c :: cs, _, a, h => (cr_w c).elim fun t z => (ccs_w cs (h.cat z.2.1 z.2.2)).elim fun t' z' => ⟨t ++ t', .cr z.1 z'.1, by rw [← lap]; exact z'.2⟩
theorem cl_w : Wrt ClT wcl c := by
 obtain ⟨nm, ⟨ty, hty⟩, cs⟩ := c
 cases ty with
 | none => exact (ccs_w cs (wn_lex nm.2).1).elim fun t z => ⟨_, .mk (a := []) (.mk (p := ([], 0)) (by decide +kernel) rfl) z.1, z.2⟩
 | some ty =>
  refine (wt_lex hty).1.elim fun t y => ?_
  exact (ccs_w cs (((wn_lex nm.2).1.f lx_bl rfl nofun).cat y.2)).elim fun t' z => ⟨_, .mk y.1 z.1, z.2⟩
theorem tc_w (h : tc.cols ≠ []) (hl : tc.cols.length ≤ 2) : Wrt TcT wtc tc := by
 obtain ⟨pk, cols⟩ := tc
 refine (cs_w h hl).elim fun t z => ?_
 cases pk with
 | true => exact ⟨_, .mk z.1, LexF.cat (lit_f [cp "PRIMARY", cp "KEY"] (by kernel_rfl)) z.2⟩
 | false => exact ⟨_, .mk z.1, LexF.cat (lit_f [cp "UNIQUE"] (by kernel_rfl)) z.2⟩
theorem mi_f {b : Bool} : LexF (miX b) (ineT b) := by
 cases b with
 | true => exact lit_f [cp "IF", cp "NOT", cp "EXISTS"] (by kernel_rfl)
 | false => exact LexF.nil
end
section
variable {u v : List Nat} {a b ts tr : List Tk} {x : Ix} {xs : List Ix} {c : Cl} {cs : List Cc} {tc : Tc} {st : Sm} {k0 k1 : List Nat} {α : Type} {R : α → List Tk → Prop}
theorem fl_mem {l : List α} (h : FlT R l ts) : ∀ x ∈ l, ∃ t, R x t ∧ t.length ≤ ts.length := by
 induction h with
 | nil => nofun
 | @cons x xs t ts h _ ih =>
  refine fun y hy => (lmc hy).elim (fun e => ⟨t, e ▸ h, ?_⟩) fun hy => (ih y hy).elim fun t' z => ⟨t', z.1, nlt z.2 ?_⟩
  ·exact Nat.le_succ_of_le (by rw [lla]; exact nla _ _)
  ·exact Nat.le_succ_of_le (by rw [lla]; exact Nat.le_add_left _ _)
theorem cs_ne (h : CsT xs ts) : xs ≠ [] ∧ xs.length ≤ 2 := by
 cases h with | mk h l =>
 refine ⟨?_, l⟩
 cases h with | cons => exact List.cons_ne_nil _ _
theorem tc_ne (h : TcT tc ts) : tc.cols ≠ [] ∧ tc.cols.length ≤ 2 := by
 cases h with | mk h => exact cs_ne h
theorem st_w (h : StT st k0 k1 tr) : ∃ tr', StT st k0 k1 tr' ∧ Lx (wst st) (.key k0 :: .key k1 :: tr') := by
 cases h with
 | @table mi nm cls tcs a b h h2 l l2 =>
  cases h with | @cons c cls t0 ts0 hc hf =>
  refine (cl_w (c := c)).elim fun t z => (fl_w (xs := cls) (f := wcl) fun _ _ => cl_w).elim fun t' z' => (fl_w (xs := tcs) (f := wtc) fun y hy => (fl_mem h2 y hy).elim fun _ q => tc_w (tc_ne q.1).1 (tc_ne q.1).2).elim fun t2 z2 => ?_
  refine ⟨_, .table (a := t ++ t') (b := t2) (.cons z.1 z'.1) z2.1 l l2, ?_⟩
  have j : LexU (joinL [44, 32] (wpt (c :: cls) tcs)) (t ++ t' ++ t2) := by
   show LexU (joinL [44, 32] (wcl c :: (cls.map wcl ++ tcs.map wtc))) _
   rw [jn_fl, flX_app, lap]
   exact z.2.cat (z'.2.cat z2.2 (flX_sep _)) (by rw [← flX_app]; exact flX_sep _)
  have e := (((((lit_f [cp "CREATE", cp "TABLE"] (by kernel_rfl)).catF (mi_f (b := mi))).cat (wn_lex nm.2).1).f (lx_bl.catF (lx_sg (c := 40) rfl)) rfl nofun).cat j).cat (lx_sg (c := 41) rfl).toU rfl
  have e := e.all
  rw [show ([.free nm.1, .sg 40] : List Tk) = [.free nm.1] ++ [.sg 40] from rfl, ← lap (ineT mi)]
  exact e
 | @index nm tb xs un mi a h =>
  refine (cs_w (cs_ne h).1 (cs_ne h).2).elim fun t z => ?_
  refine ⟨_, .index z.1, ?_⟩
  have tl : ∀ {u : List Nat} {a : List Tk}, LexF u a → LexU (u ++ wnm nm.1 ++ cp " ON " ++ wnm tb.1 ++ [32] ++ wks xs) (a ++ [.free nm.1] ++ [tk "ON"] ++ [.free tb.1] ++ [] ++ t) := fun h =>
   ((((h.cat (wn_lex nm.2).1).f (lx_bl.catF (lit_f [cp "ON"] (by kernel_rfl))) rfl nofun).cat (wn_lex tb.2).1).f lx_bl rfl nofun).cat z.2
  have e := fun {u a} (h : LexF u a) => (tl h).all
  cases un with
  | true =>
   have y := e (((lit_f [cp "CREATE"] (by kernel_rfl)).catF (lit_f [cp "UNIQUE"] (by kernel_rfl))).catF (lit_f [cp "INDEX"] (by kernel_rfl)) |>.catF (mi_f (b := mi)))
   rw [lan] at y
   exact y
  | false =>
   have y := e (((lit_f [cp "CREATE"] (by kernel_rfl)).catF (lit_f [] rfl)).catF (lit_f [cp "INDEX"] (by kernel_rfl)) |>.catF (mi_f (b := mi)))
   rw [lan] at y
   exact y
 | @drop ix nm ex =>
  refine ⟨_, .drop, ?_⟩
  cases ex with
  | true => cases ix with
   | true => exact (LexF.cat (lit_f [cp "DROP", cp "INDEX", cp "IF", cp "EXISTS"] (by kernel_rfl)) (wn_lex nm.2).1).all
   | false => exact (LexF.cat (lit_f [cp "DROP", cp "TABLE", cp "IF", cp "EXISTS"] (by kernel_rfl)) (wn_lex nm.2).1).all
  | false => cases ix with
   | true => exact (LexF.cat (lit_f [cp "DROP", cp "INDEX"] (by kernel_rfl)) (wn_lex nm.2).1).all
   | false => exact (LexF.cat (lit_f [cp "DROP", cp "TABLE"] (by kernel_rfl)) (wn_lex nm.2).1).all
theorem ap_l {α : Type} {l l' : List α} : l.length ≤ (l ++ l').length := by rw [lla]; exact nla _ _
theorem ap_r {α : Type} {l l' : List α} : l'.length ≤ (l ++ l').length := by rw [lla]; exact Nat.le_add_left _ _
theorem lx_len (h : Lx u ts) : ts.length ≤ u.length := by
 induction h with
 | nil => exact nlr _
 | blank _ _ ih => exact Nat.le_succ_of_le ih
 | line _ ih => exact nlt ih (nla _ 4)
 | note _ ih => exact nlt ih (nla _ 7)
 | @bare w r k ts hb _ _ ih =>
  cases w with
  | nil => cases hb
  | cons x w => exact Nat.succ_le_succ (nlt ih ap_r)
 | brack _ _ ih => exact Nat.succ_le_succ (nlt ih (by rw [lla]; exact nlt (Nat.le_succ _) (Nat.le_add_left _ _)))
 | quote _ _ _ ih => exact Nat.succ_le_succ (nlt ih (by rw [lla]; exact nlt (Nat.le_succ _) (Nat.le_add_left _ _)))
 | num h _ _ ih => rcases h with rfl | rfl | rfl <;> exact Nat.succ_le_succ (nlt ih ap_r)
 | sign _ _ _ ih => exact Nat.succ_le_succ ih
theorem st_ok (h : StT st k0 k1 tr) (hl : tr.length ≤ 9000) : SmOk st := by
 cases h with
 | @table mi nm cls tcs a b h h2 l l2 =>
  refine ⟨⟨l, fun c hc => ⟨?_⟩⟩, l2, fun c hc => ⟨(fl_mem h2 c hc).elim fun _ q => (tc_ne q.1).2⟩⟩
  refine (fl_mem h c hc).elim fun t q => ?_
  cases q.1 with | mk _ h3 =>
  exact nlt h3.cu.len (nlt ap_r (nlt (Nat.le_of_succ_le_succ q.2) (nlt ap_l (nlt ap_r (nlt ap_l hl)))))
 | index h => exact (cs_ne h).2
 | drop => trivial
theorem wst_len (h : SmOk st) : (wst st).length ≤ 800000 := by
 cases st with
 | table mi nm cls tcs =>
  have hw := wpt_len h.1.1 h.1.2 h.2.1 h.2.2
  have hj := nlt (jn_len _ hw.2) (Nat.mul_le_mul_right _ hw.1)
  have y : (miX mi).length ≤ 14 := by cases mi <;> exact lbe rfl
  exact nlt (len_app (b := 1) (y := [41]) (len_app (len_app (b := 2) (y := cp " (") (len_app (len_app (a := 13) (x := cp "CREATE TABLE ") (lbe rfl) y) (wn_len (x := nm))) (lbe rfl)) hj) (nlr _)) (lbe rfl)
 | index nm tb xs un mi =>
  exact nlt (len_app (len_app (b := 1) (y := [32]) (len_app (len_app (b := 4) (y := cp " ON ") (len_app (ia_len (un := un) (mi := mi)) (wn_len (x := nm))) (lbe rfl)) (wn_len (x := tb))) (nlr _)) (wks_len h)) (lbe rfl)
 | drop ix nm ex =>
  have y : (cp "DROP " ++ drT ix ++ exX ex).length ≤ 21 := by cases ix <;> cases ex <;> exact lbe rfl
  exact nlt (len_app y (wn_len (x := nm))) (lbe rfl)
end
section
variable {n : Nat} {s : MSt} {c : Int} {ds : List Int}
theorem pool_nil : callN T0 KK (n + 1) 848 [.d (.lst []), .d (.int 0)] ⟨0, fun _ => .gone⟩ = .ok (.ref 0) ⟨1, upd (fun _ => .gone) 0 (src 0 820607)⟩ := by kernel_rfl
theorem pool_go (hl : (c :: ds).length ≤ 63) : ∃ a b, cl (n + 1) 848 [.d (.lst ((c :: ds).map .int)), .d (.int 0)] s = .ok (.ref s.next) (nw s (src a b)) := by
 have el : callBi T0 "len" [.d (.lst ((c :: ds).map .int))] s = .ok (.d (.int ((ds.length + 1 : Nat) : Int))) s := by
  show (if ((((c :: ds).map D.int).map MV.d).length ≤ cap) then O.ok (MV.d (.int ((((c :: ds).map D.int).map MV.d).length : Nat))) s else .bad) = _
  rw [llm, llm, if_pos (nlt hl (by decide))]; rfl
 have es : binop .Sub (.d (.int (-1))) (.d (.int c)) s = .ok (.d (.int (-1 - c))) s := rfl
 have h0 : (0 : Int) < ((ds.length + 1 : Nat) : Int) := Int.ofNat_lt.mpr (Nat.succ_pos _)
 have hi : 0 ≤ (0 : Int) ∧ (0 : Int) < 2 ^ 62 := by decide
 have hg : ((c :: ds).map D.int)[(0 : Int).toNat]? = some (.int c) := rfl
 refine gen (if c < -1 - c then -1 - c else c) fun B hB => ?_
 have em : callBi T0 "max" [.d (.int c), .d (.int (-1 - c))] s = .ok (.d (.int B)) s := by
  subst hB; rfl
 have ep : binop .Pow (.d (.int 10)) (.d (.int 18)) s = .ok (.d (.int (10 ^ 18))) s := by kernel_rfl
 have q : ∀ a b, Ends 848 n [.d (.lst ((c :: ds).map .int)), .d (.int 0)] s (.ref s.next) (nw s (src a b)) → ∃ a b, cl (n + 1) 848 [.d (.lst ((c :: ds).map .int)), .d (.int 0)] s = .ok (.ref s.next) (nw s (src a b)) := fun a b e => ⟨a, b, e.toK⟩
 have et : callTyp "int" [.d (.bool true)] s = .ok (.d (.int 1)) s := by kernel_rfl
 have ef : callTyp "int" [.d (.bool false)] s = .ok (.d (.int 0)) s := by kernel_rfl
 by_cases hge : (10 ^ 18 : Int) ≤ B
 ·exact q (B * 1) _ (.tr (Tr.v (el) <| Tr.v (lt_t h0) <| Tr.v (gi_lst (l := (List.map D.int (c :: ds))) (k := 0) (by decide) rfl) <| Tr.v (ty_int (c)) <| Tr.v (es) <| Tr.v (ty_int (-1 - c)) <| Tr.v (em) <| Tr.v (ty_int (B)) <| Tr.v (modi (x := (B)) (y := 2147483629) (by decide)) <| Tr.v (muli (x := 7919) (y := 0) (by decide)) <| Tr.v (muli (x := 0) (y := 0) (by decide)) <| Tr.v (muli (x := 31) (y := 0) (by decide)) <| Tr.v (muli (x := (B % 2147483629 + 0 * 0 + 31 * 0 + 17)) (y := 48271) (small_lit (by decide))) <| Tr.v (ty_int ((B % 2147483629 + 0 * 0 + 31 * 0 + 17) * 48271)) <| Tr.v (modi (x := ((B % 2147483629 + 0 * 0 + 31 * 0 + 17) * 48271)) (y := 2147483647) (by decide)) <| Tr.v (ep) <| Tr.v (ge_t hge) <| Tr.v (et) <| Tr.v (muli (x := (B)) (y := 1) (small_lit (by decide))) <| Tr.v (mkl (l := [(.d (.int (B * 1))), (.d (.int ((B % 2147483629 + 0 * 0 + 31 * 0 + 17) * 48271 % 2147483647)))]) (lbe rfl)) <| Tr.ret _) (by kernel_rfl))
 ·exact q (B * 0) _ (.tr (Tr.v (el) <| Tr.v (lt_t h0) <| Tr.v (gi_lst (l := (List.map D.int (c :: ds))) (k := 0) (by decide) rfl) <| Tr.v (ty_int (c)) <| Tr.v (es) <| Tr.v (ty_int (-1 - c)) <| Tr.v (em) <| Tr.v (ty_int (B)) <| Tr.v (modi (x := (B)) (y := 2147483629) (by decide)) <| Tr.v (muli (x := 7919) (y := 0) (by decide)) <| Tr.v (muli (x := 0) (y := 0) (by decide)) <| Tr.v (muli (x := 31) (y := 0) (by decide)) <| Tr.v (muli (x := (B % 2147483629 + 0 * 0 + 31 * 0 + 17)) (y := 48271) (small_lit (by decide))) <| Tr.v (ty_int ((B % 2147483629 + 0 * 0 + 31 * 0 + 17) * 48271)) <| Tr.v (modi (x := ((B % 2147483629 + 0 * 0 + 31 * 0 + 17) * 48271)) (y := 2147483647) (by decide)) <| Tr.v (ep) <| Tr.v (ge_f hge) <| Tr.v (ef) <| Tr.v (muli (x := (B)) (y := 0) (small_lit (by decide))) <| Tr.v (mkl (l := [(.d (.int (B * 0))), (.d (.int ((B % 2147483629 + 0 * 0 + 31 * 0 + 17) * 48271 % 2147483647)))]) (lbe rfl)) <| Tr.ret _) (by kernel_rfl))
noncomputable def s1P (a b : Int) : MSt := ⟨1, upd (fun _ => .gone) 0 (src a b)⟩
theorem pool_c (hl : ds.length ≤ 63) : ∃ a b, cl (n + 1) 848 [.d (.lst (ds.map .int)), .d (.int 0)] ⟨0, fun _ => .gone⟩ = .ok (.ref 0) (s1P a b) := by
 cases ds with
 | nil => exact ⟨_, _, pool_nil⟩
 | cons c ds => exact pool_go hl
end
noncomputable section
noncomputable def gsL : List D := [.glob 951, .glob 951, .glob 958, .glob 965]
def lawE (p : Sm × List (List Nat)) (sc : D) : EL := [(so "words", .d (.lst (SD p.2))), (so "row", .d (stRow p.1)), (so "source", .ref 0), (so "script", .d sc)]
def lawF (p : Sm × List (List Nat)) (t : List Nat) (sc : D) : EL := (so "node", .d (nodeD t p.1)) :: (so "text", dS t) :: lawE p sc
end
section
variable {n : Nat} {a b : Int} {sc : D} {p : Sm × List (List Nat)} {u s : MSt} {t : List Nat} {st : Sm} {k0 k1 : List Nat} {tr : List Tk}
theorem law_1 : ∃ (p : Sm × List (List Nat)) (u : MSt), exs (cN KK (n + 11)) (fS 979) (((fB 979).drop 1).take 1) (lk [(so "source", .ref 0), (so "script", .d sc)]) (s1P a b) = .ok (.next, lk (lawE p sc)) u ∧ Fw 0 IsSrc (s1P a b) [] u ∧ SmW p := by
 have w1 : Fw 0 IsSrc (s1P a b) [] (s1P a b) := Fw.start Nat.zero_lt_one ⟨a, b, rfl⟩
 have w2 := w1.nw (.list (gsL.map .d))
 refine (one_gen (n := n + 9) (ds := gsL) (s := nw (s1P a b) (.list (gsL.map .d))) w2.x_lt w2.q (w2.g 0 rfl) (w2.lt 0 rfl) (w2.ne 0 rfl) ⟨lbe rfl, lbe rfl⟩).elim fun d s2 e2 m2 p2 => ?_
 have w3 := w2.mv m2
 have hd : d = .glob 951 ∨ d = .glob 958 ∨ d = .glob 965 := (lmc p2).elim .inl fun h => (lmc h).elim .inl fun h => .inr ((lmc h).imp_right List.mem_singleton.mp)
 rcases hd with rfl | rfl | rfl
 ·refine (table_gen (n := n + 3) w3.x_lt w3.q).elim fun p s3 e3 m3 p3 => ?_
  have w4 := w3.mv m3
  exact ⟨p, s3, xs_on (Tr.v (mkl (l := (List.map MV.d gsL)) (lbe rfl)) <| Tr.v (e2) <| Tr.v (e3) <| Tr.ret _) (by kernel_rfl), w4.sub (.cons _ .slnil), p3⟩
 ·refine (index_gen (n := n + 3) w3.x_lt w3.q).elim fun p s3 e3 m3 p3 => ?_
  have w4 := w3.mv m3
  exact ⟨p, s3, xs_on (Tr.v (mkl (l := (List.map MV.d gsL)) (lbe rfl)) <| Tr.v (e2) <| Tr.v (e3) <| Tr.ret _) (by kernel_rfl), w4.sub (.cons _ .slnil), p3⟩
 ·refine (drop_gen (n := n + 5) w3.x_lt w3.q).elim fun p s3 e3 m3 p3 => ?_
  have w4 := w3.mv m3
  exact ⟨p, s3, xs_on (Tr.v (mkl (l := (List.map MV.d gsL)) (lbe rfl)) <| Tr.v (e2) <| Tr.v (e3) <| Tr.ret _) (by kernel_rfl), w4.sub (.cons _ .slnil), p3⟩
theorem sm_ws {p : Sm × List (List Nat)} (x : Sz k0 k1 100 p.2 tr) : ∃ w0 ws, p.2 = w0 :: ws ∧ Ws (w0 :: ws) (.key k0 :: .key k1 :: tr) ∧ ws.length ≤ 100 := by
 have l := x.l
 refine x.h.elim fun w0 h => h.elim fun w1 h => h.elim fun r h => ⟨w0, w1 :: r, h.1, .cons h.2.1 (.cons h.2.2.1 h.2.2.2), ?_⟩
 rw [h.1] at l
 exact Nat.le_of_succ_le l
theorem rs_41 {y : List Nat} : rstripL (y ++ [41]) = y ++ [41] := by
 have e : (((y ++ [41]).drop 0).reverse.takeWhile Unicode.isSpace).length = 0 := by
  rw [List.drop_zero, List.reverse_append]
  show (List.takeWhile Unicode.isSpace (41 :: y.reverse)).length = 0
  rw [List.takeWhile_cons_of_neg (by decide +kernel)]; rfl
 have h : stripSame Unicode.isSpace false true ⟨(y ++ [41]).toArray⟩ = true := by
  show ((y ++ [41]).length - (((y ++ [41]).drop 0).reverse.takeWhile Unicode.isSpace).length == (y ++ [41]).length) = true
  rw [e]; exact beq_self_eq_true _
 exact congrArg (fun x : PySem.Str => x.cps.toList) (strip_same h)
theorem law_2 (w : Fw 0 IsSrc (s1P a b) [] u) (h : SmW p) : ∃ (t : List Nat) (u' : MSt), exs (cN KK (n + 11)) (fS 979) (((fB 979).drop 2).take 2) (lk (lawE p sc)) u = .ok (.next, lk (lawF p t sc)) u' ∧ Fw 0 IsSrc (s1P a b) [] u' ∧ SmOk p.1 := by
 cases h with | mk k0 k1 tr x h z =>
 refine (sm_ws x).elim fun w0 y => y.elim fun ws y => ?_
 refine (text_gen (n := n + 7) y.2.1 (nlt y.2.2 (by decide)) w.x_lt w.q).elim fun t s1 e1 m1 p1 => ?_
 have w1 := w.mv m1
 have e1 : cl (n + 11) 883 [.ref 0, .d (.lst (SD p.2))] u = .ok (dS t) s1 := by rw [y.1]; exact e1
 refine (read_ok (n := n + 1) (s := s1) w1.x_lt (nlt p1.1.2 (by decide)) h p1.1.1).elim fun s2 e2 h2 => ?_
 have w2 := w1.nt h2
 have ok : SmOk p.1 := st_ok h (nlt (Nat.le_of_succ_le (Nat.le_of_succ_le (lx_len p1.1.1))) (nlt p1.1.2 (by decide)))
 have er : nodeD (rstripL t) p.1 = nodeD t p.1 := by
  refine z.elim (fun z => z.elim fun q z => ?_) fun z => ?_
  ·refine p1.2.elim fun q' y2 => y2.elim fun wl y2 => y2.elim fun y3 y2 => ?_
   have e := (List.append_inj' (s₁ := q) (s₂ := q') (t₁ := [[41]]) (t₂ := [wl]) (z.symm.trans (y.1.trans y2.1)) rfl).2
   cases e
   rw [y2.2, rs_41]
  ·rcases st_two h with e | ⟨ix, nm, ex, e, _⟩
   ·exact absurd (e.symm.trans z) (by decide +kernel)
   ·rw [e]; rfl
 rw [er] at e2
 exact ⟨t, s2, xs_on (Tr.v (e1) <| Tr.v (e2) <| Tr.ret _) (by kernel_rfl), w2, ok⟩
end
section
variable {n : Nat} {a b : Int} {sc : D} {p : Sm × List (List Nat)} {u s : MSt} {t : List Nat} {st : Sm} {α : Type}
theorem pl_map {k : Nat} {f : α → D} {l : List α} (h : ∀ x, plainD k (f x) = true) : plainD (k + 1) (.tup (l.map f)) = true := by
 show (l.map f).all (plainD k) = true
 rw [List.all_map]; exact List.all_eq_true.mpr fun x _ => h x
theorem pl_opt {k : Nat} : ∀ o : Option (List Nat), plainD (k + 1) (optD o) = true
 | none => rfl
 | some _ => rfl
theorem pl_ix {k : Nat} (x : Ix) : plainD (k + 2) (ixRow x) = true := by
 show (true && (true && (plainD (k + 1) (optD (x.co.map (·.1))) && (true && true)))) = true
 rw [pl_opt]; rfl
theorem pl_cc {k : Nat} (c : Cc) : plainD (k + 2) (ccRow c) = true := by cases c <;> rfl
theorem pl_cl {k : Nat} (c : Cl) : plainD (k + 4) (clRow c) = true := by
 show (true && (true && (plainD (k + 3) (optD c.ty.1) && (plainD (k + 3) (.tup (c.cs.map ccRow)) && true)))) = true
 rw [pl_opt, pl_map pl_cc]; rfl
theorem pl_tc {k : Nat} (c : Tc) : plainD (k + 4) (tcRow c) = true := by
 show (true && (true && (plainD (k + 3) (.tup (c.cols.map ixRow)) && (true && true)))) = true
 rw [pl_map pl_ix]; rfl
theorem pl_st : plainD 9 (.tup (stL st)) = true := by
 cases st with
 | table mi nm cls tcs =>
  show (true && (true && (plainD 8 (.tup (cls.map clRow)) && (plainD 8 (.tup (tcs.map tcRow)) && (true && true))))) = true
  rw [pl_map pl_cl, pl_map pl_tc]; rfl
 | index nm tb xs =>
  show (true && (true && (true && (plainD 8 (.tup (xs.map ixRow)) && (true && (true && true)))))) = true
  rw [pl_map pl_ix]; rfl
 | drop => rfl
theorem eq_tt {l : List D} (h : plainD 9 (.tup l) = true) : eqT l l = some true := by unfold eqT; exact if_pos ⟨rfl, h⟩
theorem row_ne : mB (cmpM .NotEq (.d (stRow st)) (.d (stRow st))) s = .ok (.d (.bool false)) s := cm (congrArg (Option.map (!·)) (eq_tt pl_st))
theorem row_eq : mB (cmpM .Eq (.d (stRow st)) (.d (stRow st))) s = .ok (.d (.bool true)) s := cm (eq_tt pl_st)
theorem law_3 (w : Fw 0 IsSrc (s1P a b) [] u) (h : SmOk p.1) : ∃ u' : MSt, exs (cN KK (n + 11)) (fS 979) (((fB 979).drop 4).take 2) (lk (lawF p t sc)) u = .ok (.next, lk (lawF p t sc)) u' ∧ Fw 0 IsSrc (s1P a b) [] u' := by
 refine (row_st (n := n + 4) (x := t) w.x_lt h).elim fun s1 e1 h1 => ?_
 have w1 := w.nt h1
 have e2 := row_ne (st := p.1) (s := s1)
 obtain ⟨st, ws⟩ := p
 refine ⟨s1, ?_, w1⟩
 have et : mB (cmpM .NotEq (.d (.str t)) (.d (.str t))) s1 = .ok (.d (.bool false)) s1 := nes_f rfl
 cases st with
 | table mi nm cls tcs =>
  have eg : getItem (.d (stRow (.table mi nm cls tcs))) (.d (.int 0)) s1 = .ok (dS (cp "createtable")) s1 := by kernel_rfl
  exact xs_on (Tr.v (e1) <| Tr.v (e2) <| Tr.v (eg) <| Tr.v (nes_t (x := (cp "createtable")) (y := (cp "drop")) (by decide)) <| Tr.v (et) <| Tr.ret _) (by kernel_rfl)
 | index nm tb xs un mi =>
  have eg : getItem (.d (stRow (.index nm tb xs un mi))) (.d (.int 0)) s1 = .ok (dS (cp "createindex")) s1 := by kernel_rfl
  exact xs_on (Tr.v (e1) <| Tr.v (e2) <| Tr.v (eg) <| Tr.v (nes_t (x := (cp "createindex")) (y := (cp "drop")) (by decide)) <| Tr.v (et) <| Tr.ret _) (by kernel_rfl)
 | drop ix nm ex =>
  have eg : getItem (.d (stRow (.drop ix nm ex))) (.d (.int 0)) s1 = .ok (dS (cp "drop")) s1 := by kernel_rfl
  exact xs_on (Tr.v (e1) <| Tr.v (e2) <| Tr.v (eg) <| Tr.v (nes_f (x := (cp "drop")) (y := (cp "drop")) rfl) <| Tr.ret _) (by kernel_rfl)
end
section
variable {n : Nat} {a b : Int} {sc : D} {p : Sm × List (List Nat)} {u s : MSt} {t : List Nat} {st : Sm} {ws' : List (List Nat)}
theorem new_w (h0 : 0 < s.next) : ∃ s2, callGlob (cN KK (n + 1)) 704 [.d .none] s = .ok (.ref s.next) s2 ∧ s2.objs s.next = wrO ∧ Fw 0 (Is (s.objs 0)) s [(s.next, wrO)] s2 := by
 refine (init_654 (n := n) (a := s.next) (s := nw s (.inst 704 [])) (nls _) (uS ..)).elim fun s2 e2 w2 => ?_
 have kk : ∀ k, k < s.next → s2.objs k = s.objs k := fun k h => (w2.k k (Nat.lt_succ_of_lt h) (nnl h)).trans (uN (nnl h))
 exact ⟨s2, new_i (by kernel_rfl) (by kernel_rfl) e2, w2.q, ⟨⟨Nat.le_of_succ_le w2.n, fun k h _ => kk k h, kk 0 h0⟩, h0, fun p hp => (List.mem_singleton.mp hp) ▸ ⟨w2.q, nlr _, w2.n⟩, .cons (fun _ h => nomatch h) .nil⟩⟩
theorem law_again {i : Int} (h0 : 0 < s.next) (h : SmW p) (hk : SmOk p.1) (hi : 0 < i) (et : cl (n + 11) 855 [.ref 0, .d (.int 3)] u = .ok (.d (.int i)) s) (w : Fw 0 IsSrc u [] u) (w' : Fw 0 IsSrc u [] s) : ∃ u', exv (cN KK (n + 11)) (fS 979) ((fB 979).drop 6) (lk (lawF p t sc)) u = .ok (.d (.bool true)) u' := by
 refine (new_w (n := n + 10) h0).elim fun s2 y => ?_
 have e2 := y.1
 have w2 := y.2.2
 refine (wst_c (n := n + 3) (x := t) y.2.1 (w2.lt 0 rfl) hk).elim fun s3 e3 m3 => ?_
 have h3 : 0 < s3.next := lll w2.x_lt m3.n
 have w3 := Fw.start (s := s3) (Q := Is (s3.objs 0)) h3 rfl
 cases h with | mk k0 k1 tr x hs z =>
 refine (st_w hs).elim fun tr' q => ?_
 refine (read_ok (n := n + 1) (s := s3) h3 (wst_len hk) q.1 q.2).elim fun s4 e4 h4 => ?_
 have w4 := w3.nt h4
 refine (row_st (n := n + 4) (x := rstripL (wst p.1)) w4.x_lt hk).elim fun s5 e5 h5 => ?_
 have w5 := w4.nt h5
 have e6 := row_eq (st := p.1) (s := s5)
 obtain ⟨st, ws⟩ := p
 refine ⟨s5, ?_⟩
 cases st with
 | table mi nm cls tcs => exact xv_run (Tr.v (et) <| Tr.v (gt_t hi) <| Tr.v (e2) <| Tr.v (mth_of (a := (so "write")) (f := 661) (w2.g 0 rfl) (by kernel_rfl)) <| Tr.v (e3) <| Tr.v (e4) <| Tr.v (e5) <| Tr.v (e6) <| Tr.ret _) (by kernel_rfl)
 | index nm tb xs un mi => exact xv_run (Tr.v (et) <| Tr.v (gt_t hi) <| Tr.v (e2) <| Tr.v (mth_of (a := (so "write")) (f := 661) (w2.g 0 rfl) (by kernel_rfl)) <| Tr.v (e3) <| Tr.v (e4) <| Tr.v (e5) <| Tr.v (e6) <| Tr.ret _) (by kernel_rfl)
 | drop ix nm ex => exact xv_run (Tr.v (et) <| Tr.v (gt_t hi) <| Tr.v (e2) <| Tr.v (mth_of (a := (so "write")) (f := 661) (w2.g 0 rfl) (by kernel_rfl)) <| Tr.v (e3) <| Tr.v (e4) <| Tr.v (e5) <| Tr.v (e6) <| Tr.ret _) (by kernel_rfl)
end
inductive Wro (n : Nat) (X : List (List Nat)) : Prop
 | mk (w0 : List Nat) (ws : List (List Nat)) (ts : List Tk) (e : X = w0 :: ws) (h : Ws (w0 :: ws) ts) (l : ws.length ≤ 110) (r : ∀ (t : List Nat) (s : MSt), 0 < s.next → t.length ≤ 800000 → Lx t ts → ∃ s', cl (n + 11) 972 [dS t] s = .ok (.d .none) s')
section
variable {n : Nat} {a b : Int} {sc : D} {p : Sm × List (List Nat)} {u s s0 : MSt} {t : List Nat} {st : Sm} {X : List (List Nat)} {k0 k1 : List Nat} {tr : List Tk} {ws : List (List Nat)}
theorem wro_bad {w0 : List Nat} {ws : List (List Nat)} {ts : List Tk} (h : Ws (w0 :: ws) ts) (l : ws.length ≤ 110) (hb : BadT ts) : Wro n (w0 :: ws) := ⟨w0, ws, ts, rfl, h, l, fun _ _ h0 ht hl => read_bad (n := n + 1) h0 ht hb hl⟩
theorem st_bad (h : StT st k0 k1 tr) : BadT [.key k0] ∧ BadT [.key k0, .key k1] ∧ BadT (.key k1 :: tr) := by
 cases h with
 | table => exact ⟨.c .e, .c .t, .w (by kernel_rfl) (by kernel_rfl)⟩
 | @index _ _ _ un => exact ⟨.c .e, .c (.i un), by cases un <;> exact .w (by kernel_rfl) (by kernel_rfl)⟩
 | @drop ix => exact ⟨.d .e, .d (.i ix), by cases ix <;> exact .w (by kernel_rfl) (by kernel_rfl)⟩
theorem wro_all (h : SmW p) : ∃ w0 w1 r, p.2 = w0 :: w1 :: r ∧ (w1 :: r).length ≤ 100 ∧ Wro n [w0] ∧ Wro n [w0, w1] ∧ Wro n (w0 :: w1 :: (r ++ [[41]])) ∧ Wro n (w1 :: r) ∧ Wro n (w0 :: w1 :: (r ++ [[44]])) := by
 cases h with | mk k0 k1 tr x hs z =>
 have l := x.l
 refine x.h.elim fun w0 h => h.elim fun w1 h => h.elim fun r h => ?_
 rw [h.1] at l
 have l1 : (w1 :: r).length ≤ 100 := Nat.le_of_succ_le l
 have B := st_bad hs
 have more : ∀ c, hasN [40, 41, 44, 43] c = true → Wro n (w0 :: w1 :: (r ++ [[c]])) := fun c hc =>
  ⟨w0, w1 :: (r ++ [[c]]), .key k0 :: .key k1 :: (tr ++ [.sg c]), rfl, .cons h.2.1 (.cons h.2.2.1 (h.2.2.2.app (.one (wr_sg hc)))), by
   show (r ++ [[c]]).length + 1 ≤ 110
   rw [lla]; exact Nat.succ_le_succ (nlt (Nat.add_le_add_right (Nat.le_of_succ_le l1) 1) (by decide)), fun t s h0 ht hl => (read_more (n := n + 1) h0 ht hs hl).elim fun s' e _ => ⟨s', e⟩⟩
 exact ⟨w0, w1, r, h.1, l1, wro_bad (.cons h.2.1 .nil) (Nat.zero_le _) B.1, wro_bad (.cons h.2.1 (.cons h.2.2.1 .nil)) (lbe rfl) B.2.1, more 41 rfl, wro_bad (.cons h.2.2.1 h.2.2.2) (nlt (Nat.le_of_succ_le l1) (by decide)) B.2.2, more 44 rfl⟩
end
section
variable {n : Nat} {a b : Int} {sc : D} {p : Sm × List (List Nat)} {u s s0 : MSt} {t : List Nat} {st : Sm} {X : List (List Nat)} {k0 k1 : List Nat} {tr : List Tk} {ws : List (List Nat)}
theorem fr_one {x m k : Nat} {Q : MObj → Prop} {fs : List (Nat × MObj)} (w : Fw x Q s0 fs s) (j : Nat) (h : fs[j]? = some (m, .list (SL X))) (hk : s0.next ≤ k) : ∃ s', handBack k (.ref m) s = .ok (.d (.lst (SD X))) s' ∧ Fw x Q s0 [] s' :=
 ⟨_, hb_of (frz_lst (k := 4) (w.g j h)), (w.put j h .gone).cut0 hk⟩
theorem law_wrong {i : Int} (h : SmW p) (hi : ¬ 0 < i) (e1 : cl (n + 11) 855 [.ref 0, .d (.int 3)] u = .ok (.d (.int i)) s) (w : Fw 0 IsSrc u [] u) (w1 : Fw 0 IsSrc u [] s) : ∃ X s', exs (cN KK (n + 11)) (fS 979) (((fB 979).drop 6).take 2) (lk (lawF p t sc)) u = .ok (.next, lk ((so "wrong", .d (.lst (SD X))) :: lawF p t sc)) s' ∧ Fw 0 IsSrc u [] s' ∧ Wro n X := by
 refine (wro_all (n := n) h).elim fun w0 y => y.elim fun wb y => y.elim fun r y => ?_
 obtain ⟨st, ws⟩ := p
 obtain ⟨ey, hl, y1, y2, y3, y4, y5⟩ := y
 have ey : ws = w0 :: wb :: r := ey
 have hc : ws.length ≤ 101 := by rw [ey]; exact Nat.succ_le_succ hl
 have hc' := to_cap hc
 have h1 : (cut ws none (some 1)).length ≤ cap := by rw [ey]; exact (lbe rfl : 1 ≤ cap)
 have h2 : (cut ws none (some 2)).length ≤ cap := by rw [ey]; exact (lbe rfl : 2 ≤ cap)
 have h3 : (cut ws (some 1) none).length ≤ cap := nlt (len_drop _) hc'
 have h4 : (ws ++ [[41]]).length ≤ cap := to_cap (len_app (b := 1) hc (nlr _))
 have h5 : (ws ++ [[44]]).length ≤ cap := to_cap (len_app (b := 1) hc (nlr _))
 have v1 := w1.nw (.list (SL (cut ws none (some 1))))
 have v2 := v1.nw (.list (SL (cut ws none (some 2))))
 have v3 := v2.nw (.list (SL [[41]]))
 have v4 := v3.nw (.list (SL (ws ++ [[41]])))
 have v5 := v4.nw (.list (SL (cut ws (some 1) none)))
 have v6 := v5.nw (.list (SL [[44]]))
 have v7 := v6.nw (.list (SL (ws ++ [[44]])))
 have v8 := v7.nw (.list [.ref s.next, .ref (s.next + 1), .ref (s.next + 3), .ref (s.next + 4), .ref (s.next + 6)])
 refine one_run (n := n + 9) (m := s.next + 7) (l := [.ref s.next, .ref (s.next + 1), .ref (s.next + 3), .ref (s.next + 4), .ref (s.next + 6)]) v8.x_lt v8.q (v8.g 0 rfl) (v8.lt 0 rfl) (v8.ne 0 rfl) ⟨lbe rfl, lbe rfl⟩ fun x s9 hx m9 e9 => ?_
 have v9 := v8.mv m9
 have hk : u.next ≤ s.next + 8 := nlt w1.n (nla _ 8)
 have hX : ∃ X s10, handBack (s.next + 8) x s9 = .ok (.d (.lst (SD X))) s10 ∧ Fw 0 IsSrc u [] s10 ∧ Wro n X := by
  have q : ∀ {X} (j) {m}, [(s.next + 7, MObj.list [.ref s.next, .ref (s.next + 1), .ref (s.next + 3), .ref (s.next + 4), .ref (s.next + 6)]), (s.next + 6, .list (SL (ws ++ [[44]]))), (s.next + 5, .list (SL [[44]])), (s.next + 4, .list (SL (cut ws (some 1) none))), (s.next + 3, .list (SL (ws ++ [[41]]))), (s.next + 2, .list (SL [[41]])), (s.next + 1, .list (SL (cut ws none (some 2)))), (s.next, .list (SL (cut ws none (some 1))))][j]? = some (m, MObj.list (SL X)) → Wro n X → ∃ X s10, handBack (s.next + 8) (.ref m) s9 = .ok (.d (.lst (SD X))) s10 ∧ Fw 0 IsSrc u [] s10 ∧ Wro n X := fun {X} j {m} e o => (fr_one v9 j e hk).elim fun s10 z => ⟨X, s10, z.1, z.2, o⟩
  refine (lmc hx).elim (fun e => e ▸ q (X := cut ws none (some 1)) 7 rfl (by rw [ey]; exact y1)) fun hx => (lmc hx).elim (fun e => e ▸ q (X := cut ws none (some 2)) 6 rfl (by rw [ey]; exact y2)) fun hx => (lmc hx).elim (fun e => e ▸ q (X := ws ++ [[41]]) 4 rfl (by rw [ey]; exact y3)) fun hx => (lmc hx).elim (fun e => e ▸ q (X := cut ws (some 1) none) 3 rfl (by rw [ey]; exact y4)) fun hx => List.mem_singleton.mp hx ▸ q (X := ws ++ [[44]]) 1 rfl (by rw [ey]; exact y5)
 refine hX.elim fun X hX => hX.elim fun s10 hX => ?_
 have e2 := e9.trans hX.1
 have w10 := hX.2.1
 exact ⟨X, s10, xs_on (Tr.v (e1) <| Tr.v (gt_f hi) <| Tr.v (gsw (x := ((st, ws).snd)) (lof_w ((st, ws).snd)) (lo := none) (hi := (some (.int 1))) rfl rfl hc') <| Tr.v (gsw (x := ((st, ws).snd)) (lof_w ((st, ws).snd)) (lo := none) (hi := (some (.int 2))) rfl rfl hc') <| Tr.v (mkl (l := (SL [[41]])) (lbe rfl)) <| Tr.v (addw (x := ((st, ws).snd)) (y := ([[41]])) (lof_w ((st, ws).snd)) (lof (v3.g 0 rfl)) h4) <| Tr.v (gsw (x := ((st, ws).snd)) (lof_w ((st, ws).snd)) (lo := (some (.int 1))) (hi := none) rfl rfl hc') <| Tr.v (mkl (l := (SL [[44]])) (lbe rfl)) <| Tr.v (addw (x := ((st, ws).snd)) (y := ([[44]])) (lof_w ((st, ws).snd)) (lof (v6.g 0 rfl)) h5) <| Tr.v (mkl (l := ([MV.ref s.next, MV.ref (s.next + 1), MV.ref (s.next + 3), MV.ref (s.next + 4), MV.ref (s.next + 6)])) (lbe rfl)) <| Tr.v (e2) <| Tr.ret _) (by kernel_rfl), w10, hX.2.2⟩
end
section
variable {n : Nat} {a b : Int} {sc : D} {p : Sm × List (List Nat)} {u s s0 : MSt} {t : List Nat} {X : List (List Nat)} {ds : List Int}
theorem law_end (h : Wro n X) (xl : 0 < s.next) (q : IsSrc (s.objs 0)) : ∃ u', exv (cN KK (n + 11)) (fS 979) ((fB 979).drop 8) (lk ((so "wrong", .d (.lst (SD X))) :: lawF p t sc)) s = .ok (.d (.bool true)) u' := by
 cases h with | mk w0 ws ts e h l r =>
 subst e
 refine (text_gen (n := n + 7) h l xl q).elim fun t' s1 e1 m1 p1 => ?_
 refine (r t' s1 (m1.lt xl) (nlt p1.1.2 (by decide)) p1.1.1).elim fun s2 e2 => ?_
 exact ⟨s2, xv_run (Tr.v e1 <| Tr.v e2 <| Tr.ret _) (by kernel_rfl)⟩
theorem dr2 {l : List Stmt} {i j : Nat} {le : LEnv} {r : O MV} {c : Cfg} {z : Scope} (h : exv c z (l.drop (i + j)) le s = r) : exv c z ((l.drop i).drop j) le s = r := by rw [List.drop_drop]; exact h
theorem law_go (hl : ds.length ≤ 63) : ∃ st, cl (n + 12) 979 [.d (.lst (ds.map .int))] ⟨0, fun _ => .gone⟩ = .ok (.d (.bool true)) st := by
 refine (pool_c (n := n + 10) hl).elim fun a y => y.elim fun b e0 => ?_
 have x0 : exs (cN KK (n + 11)) (fS 979) ((fB 979).take 1) (lk [(so "script", .d (.lst (ds.map .int)))]) ⟨0, fun _ => .gone⟩ = .ok (.next, lk [(so "source", .ref 0), (so "script", .d (.lst (ds.map .int)))]) (s1P a b) := xs_on (Tr.v e0 <| Tr.ret _) (by kernel_rfl)
 refine (law_1 (n := n) (a := a) (b := b) (sc := .lst (ds.map .int))).elim fun p y => y.elim fun u1 y => ?_
 obtain ⟨x1, w1, hp⟩ := y
 refine (law_2 (n := n) (sc := .lst (ds.map .int)) w1 hp).elim fun t y => y.elim fun u2 y => ?_
 obtain ⟨x2, w2, hk⟩ := y
 refine (law_3 (n := n) (t := t) (sc := .lst (ds.map .int)) w2 hk).elim fun u3 y => ?_
 have x3 := y.1
 have w3 := y.2
 have g : (∃ u', exv (cN KK (n + 11)) (fS 979) ((fB 979).drop 6) (lk (lawF p t (.lst (ds.map .int)))) u3 = .ok (.d (.bool true)) u') → ∃ st, cl (n + 12) 979 [.d (.lst (ds.map .int))] ⟨0, fun _ => .gone⟩ = .ok (.d (.bool true)) st := fun h => h.elim fun u' h =>
  ⟨_, Ends.toD (.xv (xv_then 1 x0 (xv_then 1 x1 (dr2 (xv_then 2 x2 (dr2 (xv_then 2 x3 (dr2 h))))))))⟩
 have v := Fw.start (s := u3) w3.x_lt w3.q
 refine (take_gen (n := n + 10) (top := 3) (by decide) v.x_lt v.q).elim fun i u4 e4 m4 p4 => ?_
 have v4 := v.mv m4
 by_cases hi : 0 < i
 ·exact g (law_again (n := n) v4.x_lt hp hk hi e4 v v4)
 ·refine (law_wrong (n := n) (t := t) (sc := .lst (ds.map .int)) hp hi e4 v v4).elim fun X y => y.elim fun u5 y => ?_
  refine (law_end (n := n) (p := p) (t := t) (sc := .lst (ds.map .int)) y.2.2 y.2.1.x_lt y.2.1.q).elim fun u6 h => ?_
  exact g ⟨u6, xv_then 2 y.1 (dr2 h)⟩
theorem mini_run (hl : ds.length ≤ 63) : ∃ st, callN T0 1000000 200 979 [.d (.lst (ds.map .int))] ⟨0, fun _ => .gone⟩ = .ok (.d (.bool true)) st := law_go (n := 188) hl
end
end
end Mine
theorem PySem.Challenge.cw_nt0125_01_holds : PySem.Challenge.rw_nt0125_01.Holds :=
 Mine.law_holds_of (Mine.left_of (fun w o => ⟨Mine.tAf w o, Mine.t1f w o, Mine.t2f w o⟩) fun w o => ⟨Mine.tAt w o, Mine.t1t w o, Mine.t2t w o⟩) fun _ h => Mine.mini_run h
