import PyProof.Rows.All
import Wide.All
import OpenK.AllK
import Wide.FinOn
import PySem.Challenge.RW_no0173_01

set_option Elab.async false
set_option linter.unusedVariables false
set_option maxRecDepth 100000
set_option maxHeartbeats 4000000
namespace Mine
section
open PySem PySem.W PyProof.Rows
noncomputable abbrev pw : Program := PySem.Challenge.pw_no0173_01

/-- values, without tokens -/
inductive PV where
  | none | bool (b : Bool) | int (i : Int) | str (s : Str) | ref (a : Addr) | con (v : Value) | rng (n : Int) | tup (xs : List PV) | blist (xs : List Int)

/-- objects that the call has made and may change -/
inductive AO where
  | list (xs : List PV) | inst (C dx : Addr) | flds (fs : List (Str × PV)) | edict | sdict (n : Nat) (f : Str → Option PV) | tdict (n : Nat) (f : List Int → Option PV)

noncomputable abbrev Sg := Addr → Option AO
noncomputable abbrev LM := Str → Option PV
noncomputable def sset (σ : Sg) (a : Addr) (o : AO) : Sg := fun b => if b = a then some o else σ b
noncomputable def sle (σ τ : Sg) : Prop := ∀ a o, σ a = some o → τ a = some o
noncomputable def upd (lm : LM) (x : Str) (v : PV) : LM := fun y => if y = x then some v else lm y
noncomputable def noLM : LM := fun _ => none
noncomputable def bindL (l : List (Str × PV)) : LM := l.foldl (fun lm p => upd lm p.1 p.2) noLM

inductive Fl where
  | next | cont | brk | ret (v : PV)

/-- the text's defs -/
noncomputable def nameOf : Stmt → Str
  | .FunctionDef n _ _ _ _ _ _ _ _ _ => n
  | _ => Str.empty
noncomputable def argsOf : Stmt → Arguments
  | .FunctionDef _ a _ _ _ _ _ _ _ _ => a
  | _ => ⟨[], [], none, [], [], none, []⟩
noncomputable def bodyOf : Stmt → List Stmt
  | .FunctionDef _ _ b _ _ _ _ _ _ _ => b
  | .ClassDef _ _ _ b _ _ _ _ _ _ _ => b
  | _ => []
noncomputable def scopeOf : Stmt → Scope
  | .FunctionDef _ _ _ _ _ _ s _ _ _ => s
  | _ => { kind := .function, names := [], isGenerator := false, isCoroutine := false, more := [] }
noncomputable def stAt (i : Nat) : Stmt := pw.main.body.getD i (.Pass ⟨0, 0, 0, 0⟩)
noncomputable def inAt (i j : Nat) : Stmt := (bodyOf (stAt i)).getD j (.Pass ⟨0, 0, 0, 0⟩)

structure Fn where
  st : Stmt
  qual : Str
  mod : Str
  mtok : Tok
  code : Addr
  dflt : Value
  dfltPV : List PV
noncomputable def Fn.params (f : Fn) : List Str := (argsOf f.st).args.map (·.arg)
noncomputable def Fn.body (f : Fn) : List Stmt := bodyOf f.st
noncomputable def Fn.kind (f : Fn) : Str → Option NameKind := fun x => (scopeOf f.st).names.lookup x

noncomputable def f_is_layout : Fn := ⟨stAt 3, "is_layout", "clausemill.chars", 194, 27, .none, []⟩
noncomputable def f_is_digit : Fn := ⟨stAt 4, "is_digit", "clausemill.chars", 194, 34, .none, []⟩
noncomputable def f_is_small : Fn := ⟨stAt 5, "is_small", "clausemill.chars", 194, 41, .none, []⟩
noncomputable def f_is_capital : Fn := ⟨stAt 6, "is_capital", "clausemill.chars", 194, 48, .none, []⟩
noncomputable def f_is_alnum : Fn := ⟨stAt 7, "is_alnum", "clausemill.chars", 194, 55, .none, []⟩
noncomputable def f_is_symbol : Fn := ⟨stAt 8, "is_symbol", "clausemill.chars", 194, 62, .none, []⟩
noncomputable def f_is_quotable : Fn := ⟨stAt 9, "is_quotable", "clausemill.chars", 194, 69, .none, []⟩
noncomputable def f_digit_value : Fn := ⟨stAt 10, "digit_value", "clausemill.chars", 194, 76, .none, []⟩
noncomputable def f_codes_text : Fn := ⟨stAt 11, "codes_text", "clausemill.chars", 194, 81, .none, []⟩
noncomputable def f_is_alnum_name : Fn := ⟨stAt 12, "is_alnum_name", "clausemill.chars", 194, 88, .none, []⟩
noncomputable def f_is_symbol_name : Fn := ⟨stAt 13, "is_symbol_name", "clausemill.chars", 194, 95, .none, []⟩
noncomputable def f_is_plain_name : Fn := ⟨stAt 14, "is_plain_name", "clausemill.chars", 194, 102, .none, []⟩
noncomputable def f_escaped : Fn := ⟨stAt 16, "escaped", "clausemill.writer", 283, 109, .none, []⟩
noncomputable def f_quoted_text : Fn := ⟨stAt 17, "quoted_text", "clausemill.writer", 283, 116, .none, []⟩
noncomputable def f_atom_text : Fn := ⟨stAt 18, "atom_text", "clausemill.writer", 283, 124, .ref 118, [.bool true]⟩
noncomputable def f_fixed_atoms : Fn := ⟨stAt 22, "fixed_atoms", "clausemill.symbols", 312, 163, .none, []⟩
noncomputable def f_fixed_functors : Fn := ⟨stAt 23, "fixed_functors", "clausemill.symbols", 312, 170, .none, []⟩
noncomputable def f_Symbols_init : Fn := ⟨inAt 24 0, "Symbols.__init__", "clausemill.symbols", 312, 184, .none, []⟩
noncomputable def f_Symbols_atom : Fn := ⟨inAt 24 1, "Symbols.atom", "clausemill.symbols", 312, 191, .none, []⟩
noncomputable def f_Symbols_text : Fn := ⟨inAt 24 2, "Symbols.text", "clausemill.symbols", 312, 198, .none, []⟩
noncomputable def f_Symbols_functor : Fn := ⟨inAt 24 3, "Symbols.functor", "clausemill.symbols", 312, 205, .none, []⟩
noncomputable def f_Symbols_func : Fn := ⟨inAt 24 4, "Symbols.func", "clausemill.symbols", 312, 212, .none, []⟩
noncomputable def f_simple_escape : Fn := ⟨stAt 43, "simple_escape", "clausemill.tokens", 496, 268, .none, []⟩
noncomputable def f_Tokenizer_init : Fn := ⟨inAt 45 0, "Tokenizer.__init__", "clausemill.tokens", 496, 290, .ref 284, [.int 0]⟩
noncomputable def f_Tokenizer_code_at : Fn := ⟨inAt 45 1, "Tokenizer.code_at", "clausemill.tokens", 496, 297, .none, []⟩
noncomputable def f_Tokenizer_next : Fn := ⟨inAt 45 4, "Tokenizer.next", "clausemill.tokens", 496, 318, .none, []⟩
noncomputable def f_Tokenizer_skip_layout : Fn := ⟨inAt 45 6, "Tokenizer.skip_layout", "clausemill.tokens", 496, 332, .none, []⟩
noncomputable def f_Tokenizer_word : Fn := ⟨inAt 45 9, "Tokenizer.word", "clausemill.tokens", 496, 353, .none, []⟩
noncomputable def f_Tokenizer_symbol : Fn := ⟨inAt 45 10, "Tokenizer.symbol", "clausemill.tokens", 496, 360, .none, []⟩
noncomputable def f_Tokenizer_ends_at : Fn := ⟨inAt 45 11, "Tokenizer.ends_at", "clausemill.tokens", 496, 367, .none, []⟩
noncomputable def f_Tokenizer_quoted : Fn := ⟨inAt 45 15, "Tokenizer.quoted", "clausemill.tokens", 496, 395, .none, []⟩
noncomputable def f_Tokenizer_escape : Fn := ⟨inAt 45 16, "Tokenizer.escape", "clausemill.tokens", 496, 402, .none, []⟩
noncomputable def f_law_pool : Fn := ⟨stAt 47, "_law_pool", "law_no0173_01", 754, 423, .none, []⟩
noncomputable def f_law_pick : Fn := ⟨stAt 48, "_law_pick", "law_no0173_01", 754, 430, .none, []⟩
noncomputable def f_law_name : Fn := ⟨stAt 49, "_law_name", "law_no0173_01", 754, 437, .none, []⟩
noncomputable def f_law_bare : Fn := ⟨stAt 50, "_law_bare", "law_no0173_01", 754, 442, .none, []⟩
noncomputable def f_law : Fn := ⟨stAt 51, "law", "law_no0173_01", 754, 447, .none, []⟩
noncomputable def fnTab : List (Addr × Fn) := [(28, f_is_layout), (35, f_is_digit), (42, f_is_small), (49, f_is_capital), (56, f_is_alnum), (63, f_is_symbol), (70, f_is_quotable), (77, f_digit_value), (82, f_codes_text), (89, f_is_alnum_name), (96, f_is_symbol_name), (103, f_is_plain_name), (110, f_escaped), (117, f_quoted_text), (125, f_atom_text), (164, f_fixed_atoms), (171, f_fixed_functors), (185, f_Symbols_init), (192, f_Symbols_atom), (199, f_Symbols_text), (206, f_Symbols_functor), (213, f_Symbols_func), (269, f_simple_escape), (291, f_Tokenizer_init), (298, f_Tokenizer_code_at), (319, f_Tokenizer_next), (333, f_Tokenizer_skip_layout), (354, f_Tokenizer_word), (361, f_Tokenizer_symbol), (368, f_Tokenizer_ends_at), (396, f_Tokenizer_quoted), (403, f_Tokenizer_escape), (424, f_law_pool), (431, f_law_pick), (438, f_law_name), (443, f_law_bare), (448, f_law)]
noncomputable def globTab : List (Str × PV) := [(Str.ofString "_wall", PV.ref 21), (Str.ofString "MAX_CODE", PV.int (1114111)), (Str.ofString "is_layout", PV.ref 28), (Str.ofString "is_digit", PV.ref 35), (Str.ofString "is_small", PV.ref 42), (Str.ofString "is_capital", PV.ref 49),
  (Str.ofString "is_alnum", PV.ref 56), (Str.ofString "is_symbol", PV.ref 63), (Str.ofString "is_quotable", PV.ref 70), (Str.ofString "digit_value", PV.ref 77), (Str.ofString "codes_text", PV.ref 82), (Str.ofString "is_alnum_name", PV.ref 89),
  (Str.ofString "is_symbol_name", PV.ref 96), (Str.ofString "is_plain_name", PV.ref 103), (Str.ofString "escaped", PV.ref 110), (Str.ofString "quoted_text", PV.ref 117), (Str.ofString "atom_text", PV.ref 125), (Str.ofString "ClausemillError", PV.ref 135),
  (Str.ofString "SyntaxFault", PV.ref 155), (Str.ofString "fixed_atoms", PV.ref 164), (Str.ofString "fixed_functors", PV.ref 171), (Str.ofString "Symbols", PV.ref 258), (Str.ofString "NO_CODE", PV.int (-1)), (Str.ofString "BAD_CODE", PV.int (-2)),
  (Str.ofString "NEW_LINE", PV.int (10)), (Str.ofString "DOUBLE_QUOTE", PV.int (34)), (Str.ofString "PERCENT", PV.int (37)), (Str.ofString "QUOTE", PV.int (39)), (Str.ofString "OPEN", PV.int (40)), (Str.ofString "STAR", PV.int (42)),
  (Str.ofString "DOT", PV.int (46)), (Str.ofString "SLASH", PV.int (47)), (Str.ofString "DIGIT_ZERO", PV.int (48)), (Str.ofString "BACKSLASH", PV.int (92)), (Str.ofString "UNDERSCORE", PV.int (95)), (Str.ofString "BACK_QUOTE", PV.int (96)),
  (Str.ofString "LETTER_B", PV.int (98)), (Str.ofString "LETTER_O", PV.int (111)), (Str.ofString "LETTER_X", PV.int (120)), (Str.ofString "simple_escape", PV.ref 269), (Str.ofString "numeral_base", PV.ref 276), (Str.ofString "Tokenizer", PV.ref 413),
  (Str.ofString "_law_pool", PV.ref 424), (Str.ofString "_law_pick", PV.ref 431), (Str.ofString "_law_name", PV.ref 438), (Str.ofString "_law_bare", PV.ref 443), (Str.ofString "law", PV.ref 448)]
noncomputable def builtTab : List (Str × PV) := [(Str.ofString "len", PV.con (.builtin "len")), (Str.ofString "ord", PV.con (.builtin "ord")), (Str.ofString "chr", PV.con (.builtin "chr")), (Str.ofString "abs", PV.con (.builtin "abs")), (Str.ofString "max", PV.con (.builtin "max")), (Str.ofString "int", PV.con (.type "int")), (Str.ofString "range", PV.con (.type "range"))]
noncomputable def glob (x : Str) : Option PV := match globTab.lookup x with
  | some v => some v
  | none => builtTab.lookup x
noncomputable def fnAt (a : Addr) : Option Fn := fnTab.lookup a
/-- own classes: __init__ -/
noncomputable def initAt (C : Addr) : Option Addr := if C = 258 then some 185 else if C = 413 then some 291 else none
noncomputable def methTab : List ((Addr × Str) × Addr) := [((258, Str.ofString "atom"), 192), ((258, Str.ofString "text"), 199), ((258, Str.ofString "functor"), 206), ((258, Str.ofString "func"), 213),
  ((413, Str.ofString "code_at"), 298), ((413, Str.ofString "next"), 319), ((413, Str.ofString "skip_layout"), 333), ((413, Str.ofString "word"), 354), ((413, Str.ofString "symbol"), 361), ((413, Str.ofString "ends_at"), 368), ((413, Str.ofString "quoted"), 396), ((413, Str.ofString "escape"), 403)]
noncomputable def methAt (C : Addr) (n : Str) : Option Addr := methTab.lookup (C, n)
noncomputable def fieldTab : List (Addr × Str) := [(258, Str.ofString "texts"), (258, Str.ofString "atom_numbers"), (258, Str.ofString "functors"), (258, Str.ofString "functor_numbers"), (413, Str.ofString "codes"), (413, Str.ofString "at"), (413, Str.ofString "origin")]
noncomputable def fieldOk (C : Addr) (n : Str) : Bool := fieldTab.contains (C, n)

structure Cx where
  kind : Str → Option NameKind
  d : Nat

noncomputable def bindF (f : Fn) (vs : List PV) : Option LM :=
  if f.params.length ≤ vs.length + f.dfltPV.length ∧ vs.length ≤ f.params.length then
    some (bindL (f.params.zip (vs ++ f.dfltPV.drop (vs.length + f.dfltPV.length - f.params.length))))
  else none

noncomputable def strsOf : List PV → Option (List Str)
  | [] => some []
  | .str s :: r => (strsOf r).map (s :: ·)
  | _ :: _ => none
noncomputable def intsOf : List PV → Option (List Int)
  | [] => some []
  | .int i :: r => (intsOf r).map (i :: ·)
  | _ :: _ => none
/-- strs and ints, flat -/
noncomputable def flatOf : List PV → Option (List (Str ⊕ Int))
  | [] => some []
  | .str s :: r => (flatOf r).map (.inl s :: ·)
  | .int i :: r => (flatOf r).map (.inr i :: ·)
  | _ :: _ => none

noncomputable def flatOk : Str ⊕ Int → Bool
  | .inl s => PyData.strOk s
  | .inr _ => true

inductive WBin : Operator → PV → PV → (PV → Prop) → Prop
  | add {x y : Int} {k : PV → Prop} (h : k (.int (x + y))) : WBin .Add (.int x) (.int y) k
  | sub {x y : Int} {k : PV → Prop} (h : k (.int (x - y))) : WBin .Sub (.int x) (.int y) k
  | mul {x y : Int} {k : PV → Prop} (h1 : x.natAbs < 2 ^ 64) (h2 : y.natAbs < 2 ^ 64) (h : k (.int (x * y))) : WBin .Mult (.int x) (.int y) k
  | div {x y : Int} {k : PV → Prop} (h1 : 0 < y) (h2 : y < 2 ^ 30) (h : k (.int (x.fdiv y))) : WBin .FloorDiv (.int x) (.int y) k
  | mod {x y : Int} {k : PV → Prop} (h1 : y ≠ 0) (h : k (.int (x.fmod y))) : WBin .Mod (.int x) (.int y) k
  | str {x y : Str} {k : PV → Prop} (h1 : x.length + y.length ≤ 1000000) (h : k (.str (x ++ y))) : WBin .Add (.str x) (.str y) k

inductive WCmp : CmpOp → PV → PV → Sg → (Bool → Prop) → Prop
  | eq {x y : Int} {σ : Sg} {k : Bool → Prop} (h : k (decide (x = y))) : WCmp .Eq (.int x) (.int y) σ k
  | ne {x y : Int} {σ : Sg} {k : Bool → Prop} (h : k (!decide (x = y))) : WCmp .NotEq (.int x) (.int y) σ k
  | lt {x y : Int} {σ : Sg} {k : Bool → Prop} (h : k (decide (x < y))) : WCmp .Lt (.int x) (.int y) σ k
  | le {x y : Int} {σ : Sg} {k : Bool → Prop} (h : k (decide (x ≤ y))) : WCmp .LtE (.int x) (.int y) σ k
  | gt {x y : Int} {σ : Sg} {k : Bool → Prop} (h : k (decide (y < x))) : WCmp .Gt (.int x) (.int y) σ k
  | ge {x y : Int} {σ : Sg} {k : Bool → Prop} (h : k (decide (y ≤ x))) : WCmp .GtE (.int x) (.int y) σ k
  | eqS {x y : Str} {σ : Sg} {k : Bool → Prop} (h : k (decide (x = y))) : WCmp .Eq (.str x) (.str y) σ k
  | neS {x y : Str} {σ : Sg} {k : Bool → Prop} (h : k (!decide (x = y))) : WCmp .NotEq (.str x) (.str y) σ k
  | neB {x y : Bool} {σ : Sg} {k : Bool → Prop} (h : k (x != y)) : WCmp .NotEq (.bool x) (.bool y) σ k
  | inS {x y : Str} {σ : Sg} {k : Bool → Prop} (h : k (Txt.contains y x)) : WCmp .In (.str x) (.str y) σ k
  | ninS {x y : Str} {σ : Sg} {k : Bool → Prop} (h : k (!Txt.contains y x)) : WCmp .NotIn (.str x) (.str y) σ k
  | inT {x : Str} {ys : List PV} {σ : Sg} {k : Bool → Prop} (l : List Str) (e : strsOf ys = some l) (h : k (decide (x ∈ l))) : WCmp .In (.str x) (.tup ys) σ k
  | inL {x : Str} {a : Addr} {σ : Sg} {k : Bool → Prop} (ys : List PV) (l : List Str) (e1 : σ a = some (.list ys)) (e : strsOf ys = some l) (h : k (decide (x ∈ l))) : WCmp .In (.str x) (.ref a) σ k
  | ninL {x : Str} {a : Addr} {σ : Sg} {k : Bool → Prop} (ys : List PV) (l : List Str) (e1 : σ a = some (.list ys)) (e : strsOf ys = some l) (h : k (!decide (x ∈ l))) : WCmp .NotIn (.str x) (.ref a) σ k
  | eqL {a b : Addr} {σ : Sg} {k : Bool → Prop} (xs : List PV) (l : List Str) (e1 : σ a = some (.list xs)) (e2 : σ b = some (.list [])) (e : strsOf xs = some l) (q : l.all PyData.strOk = true) (h : k (decide (l = []))) : WCmp .Eq (.ref a) (.ref b) σ k
  | neL {a b : Addr} {σ : Sg} {k : Bool → Prop} (xs : List PV) (l : List Str) (e1 : σ a = some (.list xs)) (e2 : σ b = some (.list [])) (e : strsOf xs = some l) (q : l.all PyData.strOk = true) (h : k (!decide (l = []))) : WCmp .NotEq (.ref a) (.ref b) σ k
  | neT {xs ys : List PV} {σ : Sg} {k : Bool → Prop} (l m : List (Str ⊕ Int)) (e1 : flatOf xs = some l) (e2 : flatOf ys = some m) (q1 : l.all flatOk = true) (q2 : m.all flatOk = true) (h : k (!decide (l = m))) : WCmp .NotEq (.tup xs) (.tup ys) σ k

/-- an item at an index -/
inductive WItem : PV → PV → Sg → (PV → Prop) → Prop
  | str {x : Str} {j : Int} {σ : Sg} {k : PV → Prop} (y : Nat) (h0 : 0 ≤ j) (h1 : j < 2 ^ 62) (e : x.cps[j.toNat]? = some y) (h : k (.str ⟨#[y]⟩)) : WItem (.str x) (.int j) σ k
  | list {a : Addr} {j : Int} {σ : Sg} {k : PV → Prop} (xs : List PV) (v : PV) (e1 : σ a = some (.list xs)) (h0 : 0 ≤ j) (h1 : j < 2 ^ 62) (e : xs[j.toNat]? = some v) (h : k v) : WItem (.ref a) (.int j) σ k
  | tup {xs : List PV} {j : Int} {σ : Sg} {k : PV → Prop} (v : PV) (h0 : 0 ≤ j) (h1 : j < 2 ^ 62) (e : xs[j.toNat]? = some v) (h : k v) : WItem (.tup xs) (.int j) σ k

/-- a cut with written or unwritten ends: both ends at hand are ints at nought or above -/
inductive WCut : PV → Option Int → Option Int → Sg → (PV → Sg → Prop) → Prop
  | str {x : Str} {i : Int} {σ : Sg} {Q : PV → Sg → Prop} (h0 : x.length ≤ 1000000) (h : Q (.str (Txt.slice x none (some i))) σ) : WCut (.str x) none (some i) σ Q
  | list {a : Addr} {i j : Int} {σ : Sg} {Q : PV → Sg → Prop} (xs : List PV) (e : σ a = some (.list xs)) (h0 : 0 ≤ i) (h1 : i ≤ j) (h2 : j < 2 ^ 62) (h3 : j ≤ xs.length) (h4 : xs.length ≤ 1000000) (h : ∀ b, σ b = none → Q (.ref b) (sset σ b (.list ((xs.take j.toNat).drop i.toNat)))) : WCut (.ref a) (some i) (some j) σ Q
  | blist {xs : List Int} {i : Int} {σ : Sg} {Q : PV → Sg → Prop} (h0 : 0 ≤ i) (h1 : i < 2 ^ 62) (h2 : xs.length ≤ 1000000) (h : ∀ b, σ b = none → Q (.ref b) (sset σ b (.list ((xs.take i.toNat).map .int)))) : WCut (.blist xs) none (some i) σ Q

/-- built-in functions and types -/
inductive WFun : String → List PV → Sg → (PV → Sg → Prop) → Prop
  | lenS {x : Str} {σ : Sg} {Q : PV → Sg → Prop} (h0 : x.length < 2 ^ 62) (h : Q (.int x.length) σ) : WFun "len" [.str x] σ Q
  | lenL {a : Addr} {σ : Sg} {Q : PV → Sg → Prop} (xs : List PV) (e : σ a = some (.list xs)) (h0 : xs.length < 2 ^ 62) (h : Q (.int xs.length) σ) : WFun "len" [.ref a] σ Q
  | ord {x : Nat} {σ : Sg} {Q : PV → Sg → Prop} (h : Q (.int x) σ) : WFun "ord" [.str ⟨#[x]⟩] σ Q
  | chr {i : Int} {σ : Sg} {Q : PV → Sg → Prop} (h0 : 0 ≤ i) (h1 : i ≤ 1114111) (h : Q (.str ⟨#[i.toNat]⟩) σ) : WFun "chr" [.int i] σ Q
  | abs {i : Int} {σ : Sg} {Q : PV → Sg → Prop} (h : Q (.int (if i < 0 then -i else i)) σ) : WFun "abs" [.int i] σ Q
  | max {i j : Int} {σ : Sg} {Q : PV → Sg → Prop} (h : Q (.int (if j > i then j else i)) σ) : WFun "max" [.int i, .int j] σ Q
inductive WTyp : String → List PV → Sg → (PV → Sg → Prop) → Prop
  | int {i : Int} {σ : Sg} {Q : PV → Sg → Prop} (h : Q (.int i) σ) : WTyp "int" [.int i] σ Q
  | range {i : Int} {σ : Sg} {Q : PV → Sg → Prop} (h0 : i.natAbs < 2 ^ 62) (h : Q (.rng i) σ) : WTyp "range" [.int i] σ Q
/-- a method of a built-in object, called -/
inductive WMet : String → PV → List PV → Sg → (PV → Sg → Prop) → Prop
  | starts {x y : Str} {σ : Sg} {Q : PV → Sg → Prop} (h : Q (.bool (Txt.startswith x y)) σ) : WMet "str.startswith" (.str x) [.str y] σ Q
  | find {x y : Str} {σ : Sg} {Q : PV → Sg → Prop} (h : Q (.int (Txt.find x y)) σ) : WMet "str.find" (.str x) [.str y] σ Q
  | upper {x : Str} {σ : Sg} {Q : PV → Sg → Prop} (h0 : x.length ≤ 1000) (h : Q (.str (Txt.upper x)) σ) : WMet "str.upper" (.str x) [] σ Q
  | join {x : Str} {a : Addr} {σ : Sg} {Q : PV → Sg → Prop} (ys : List PV) (l : List Str) (e : σ a = some (.list ys)) (e2 : strsOf ys = some l) (h0 : x.length ≤ 64) (h1 : (l.map (fun y => y.length)).sum + l.length * 64 ≤ 1000000) (h : Q (.str (Txt.join x l)) σ) : WMet "str.join" (.str x) [.ref a] σ Q
  | append {a : Addr} {v : PV} {σ : Sg} {Q : PV → Sg → Prop} (xs : List PV) (e : σ a = some (.list xs)) (h0 : xs.length ≤ 1000000) (h : Q .none (sset σ a (.list (xs ++ [v])))) : WMet "list.append" (.ref a) [v] σ Q
  | getS {a : Addr} {x : Str} {v : PV} {σ : Sg} {Q : PV → Sg → Prop} (m : Nat) (f : Str → Option PV) (e : σ a = some (.sdict m f)) (h : Q ((f x).getD v) σ) : WMet "dict.get" (.ref a) [.str x, v] σ Q
  | getT {a : Addr} {xs : List PV} {v : PV} {σ : Sg} {Q : PV → Sg → Prop} (m : Nat) (f : List Int → Option PV) (l : List Int) (e0 : intsOf xs = some l) (e : σ a = some (.tdict m f)) (h : Q ((f l).getD v) σ) : WMet "dict.get" (.ref a) [.tup xs, v] σ Q
  | getES {a : Addr} {x : Str} {v : PV} {σ : Sg} {Q : PV → Sg → Prop} (e : σ a = some .edict) (h : Q v σ) : WMet "dict.get" (.ref a) [.str x, v] σ Q
  | getET {a : Addr} {xs : List PV} {v : PV} {σ : Sg} {Q : PV → Sg → Prop} (l : List Int) (e0 : intsOf xs = some l) (e : σ a = some .edict) (h : Q v σ) : WMet "dict.get" (.ref a) [.tup xs, v] σ Q

noncomputable def lookF (n : Str) : List (Str × PV) → Option PV
  | [] => none
  | (m, v) :: r => if m = n then some v else lookF n r
noncomputable def putF (n : Str) (v : PV) : List (Str × PV) → List (Str × PV)
  | [] => [(n, v)]
  | (m, x) :: r => if m = n then (m, v) :: r else (m, x) :: putF n v r

noncomputable def isD : AO → Bool
  | .edict => true
  | .sdict _ _ => true
  | .tdict _ _ => true
  | _ => false
/-- a method is looked up: a def's, or a built-in -/
inductive WGet : PV → Str → Sg → (Addr ⊕ String → Prop) → Prop
  | inst {a : Addr} {m : Str} {σ : Sg} {k : Addr ⊕ String → Prop} (C dx : Addr) (fs : List (Str × PV)) (f : Addr) (e1 : σ a = some (.inst C dx)) (e2 : σ dx = some (.flds fs)) (e3 : lookF m fs = none) (e4 : methAt C m = some f) (h : k (.inl f)) : WGet (.ref a) m σ k
  | append {a : Addr} {σ : Sg} {k : Addr ⊕ String → Prop} (xs : List PV) (e : σ a = some (.list xs)) (h : k (.inr "list.append")) : WGet (.ref a) (Str.ofString "append") σ k
  | get {a : Addr} {σ : Sg} {k : Addr ⊕ String → Prop} (x : AO) (e : σ a = some x) (e1 : isD x = true) (h : k (.inr "dict.get")) : WGet (.ref a) (Str.ofString "get") σ k
  | starts {x : Str} {σ : Sg} {k : Addr ⊕ String → Prop} (h : k (.inr "str.startswith")) : WGet (.str x) (Str.ofString "startswith") σ k
  | find {x : Str} {σ : Sg} {k : Addr ⊕ String → Prop} (h : k (.inr "str.find")) : WGet (.str x) (Str.ofString "find") σ k
  | upper {x : Str} {σ : Sg} {k : Addr ⊕ String → Prop} (h : k (.inr "str.upper")) : WGet (.str x) (Str.ofString "upper") σ k
  | join {x : Str} {σ : Sg} {k : Addr ⊕ String → Prop} (h : k (.inr "str.join")) : WGet (.str x) (Str.ofString "join") σ k

noncomputable def notCon : PV → Bool
  | .con _ => false
  | _ => true
inductive WAttr : PV → Str → Sg → (PV → Prop) → Prop
  | mk {a : Addr} {n : Str} {σ : Sg} {k : PV → Prop} (C dx : Addr) (fs : List (Str × PV)) (v : PV) (e1 : σ a = some (.inst C dx)) (e2 : σ dx = some (.flds fs)) (e3 : fieldOk C n = true) (e4 : lookF n fs = some v) (e5 : notCon v = true) (h : k v) : WAttr (.ref a) n σ k
inductive WSetAttr : PV → Str → PV → Sg → (Sg → Prop) → Prop
  | mk {a : Addr} {n : Str} {v : PV} {σ : Sg} {k : Sg → Prop} (C dx : Addr) (fs : List (Str × PV)) (e1 : σ a = some (.inst C dx)) (e2 : σ dx = some (.flds fs)) (e3 : fieldOk C n = true) (e4 : fs.length ≤ 8) (h : k (sset σ dx (.flds (putF n v fs)))) : WSetAttr (.ref a) n v σ k
inductive WSetItem : PV → PV → PV → Sg → (Sg → Prop) → Prop
  | list {a : Addr} {j : Int} {v : PV} {σ : Sg} {k : Sg → Prop} (xs : List PV) (e : σ a = some (.list xs)) (h0 : 0 ≤ j) (h1 : j < 2 ^ 62) (h2 : j < xs.length) (h : k (sset σ a (.list (xs.set j.toNat v)))) : WSetItem (.ref a) (.int j) v σ k
  | e {a : Addr} {x : Str} {v : PV} {σ : Sg} {k : Sg → Prop} (e : σ a = some .edict) (h : k (sset σ a (.sdict 1 fun y => if y = x then some v else none))) : WSetItem (.ref a) (.str x) v σ k
  | s {a : Addr} {x : Str} {v : PV} {σ : Sg} {k : Sg → Prop} (m : Nat) (f : Str → Option PV) (e : σ a = some (.sdict m f)) (h0 : m ≤ 1000000) (h : k (sset σ a (.sdict (m + 1) fun y => if y = x then some v else f y))) : WSetItem (.ref a) (.str x) v σ k
  | te {a : Addr} {xs : List PV} {v : PV} {σ : Sg} {k : Sg → Prop} (l : List Int) (e0 : intsOf xs = some l) (e : σ a = some .edict) (h : k (sset σ a (.tdict 1 fun y => if y = l then some v else none))) : WSetItem (.ref a) (.tup xs) v σ k
  | t {a : Addr} {xs : List PV} {v : PV} {σ : Sg} {k : Sg → Prop} (l : List Int) (m : Nat) (f : List Int → Option PV) (e0 : intsOf xs = some l) (e : σ a = some (.tdict m f)) (h0 : m ≤ 1000000) (h : k (sset σ a (.tdict (m + 1) fun y => if y = l then some v else f y))) : WSetItem (.ref a) (.tup xs) v σ k

/-- what a for goes over: the items, and what must stand at each turn -/
noncomputable def items : PV → Sg → Option (List PV)
  | .str x, _ => some (x.cps.toList.map fun c => .str ⟨#[c]⟩)
  | .tup xs, _ => some xs
  | .rng n, _ => some ((List.range n.toNat).map fun (i : Nat) => .int (i : Int))
  | .ref a, σ => (match σ a with | some (.list xs) => some xs | _ => none)
  | _, _ => none
/-- what a for goes over is not touched while it runs: it is forgotten -/
noncomputable def hide : PV → Sg → Sg
  | .ref a, σ => fun b => if b = a then none else σ b
  | _, σ => σ
noncomputable def noSg : Sg := fun _ => none
noncomputable def isSI : PV → Bool
  | .str _ => true
  | .int _ => true
  | _ => false

noncomputable def forW (body : LM → Sg → (Fl → LM → Sg → Prop) → Prop) (x : Str) : List PV → LM → Sg → (Fl → LM → Sg → Prop) → Prop
  | [], lm, σ, Q => Q .next lm σ
  | v :: r, lm, σ, Q => body (upd lm x v) σ fun fl lm' σ' => match fl with
      | .next | .cont => forW body x r lm' σ' Q
      | .brk => Q .next lm' σ'
      | .ret u => Q (.ret u) lm' σ'

noncomputable def isSetD : Expr → Bool
  | .Set _ _ _ => true
  | _ => false
noncomputable def isComp : Expr → Bool
  | .ListComp _ _ _ _ => true
  | .SetComp _ _ _ _ => true
  | .DictComp _ _ _ _ _ => true
  | _ => false
noncomputable def isCall : Expr → Bool
  | .Call _ _ _ _ => true
  | _ => false
noncomputable def isSlice : Expr → Bool
  | .Slice _ _ _ _ => true
  | _ => false
noncomputable def isStar : Expr → Bool
  | .Starred _ _ => true
  | _ => false
noncomputable def noStar (es : List Expr) : Bool := es.all fun e => !isStar e
noncomputable def okArgs (es : List Expr) : Bool := noStar es && decide (es.length < 20)
noncomputable def okM (o : Expr) (es : List Expr) (ap p : Pos) : Bool := !isCall o && okArgs es && (ap.endLine == p.line)
noncomputable def okLc (kind : Str → Option NameKind) (sc : Scope) (x : Str) : Bool := sc.names.all (fun y => y.2 != .cell && (y.2 != .local || sc.names.lookup y.1 == some .local) && (y.2 != .free || kind y.1 == some .cell)) && sc.kind == .function && sc.names.lookup x == some .local &&
  sc.names.lookup (Str.ofString "__debug__") == none && sc.names.lookup (Str.ofString "__classdict__") == none

noncomputable def isFun : PV → Bool
  | .con (.builtin _) => true
  | .con (.type _) => true
  | .ref a => (initAt a).isSome || (fnAt a).isSome
  | _ => false
noncomputable def isMet : Addr ⊕ String → Bool
  | .inl a => (fnAt a).isSome
  | .inr _ => true

mutual
noncomputable def WE : Nat → Cx → Expr → LM → Sg → (PV → Sg → Prop) → Prop
  | 0, _, _, _, _, _ => False
  | n + 1, c, .Constant k _ _, _, σ, Q => (match k with
      | .none => Q .none σ
      | .bool b => Q (.bool b) σ
      | .int i => Q (.int i) σ
      | .str s => Q (.str s) σ
      | _ => False)
  | n + 1, c, .Name x _, lm, σ, Q => (match lm x with
      | some v => Q v σ
      | none => c.kind x = some .globalImplicit ∧ (match glob x with
          | some v => Q v σ
          | none => False))
  | n + 1, c, .BoolOp op es _, lm, σ, Q => WBo n c op es lm σ Q
  | n + 1, c, .UnaryOp .Not e _, lm, σ, Q => WE n c e lm σ fun v σ₁ => (match v with
      | .bool b => Q (.bool (!b)) σ₁
      | _ => False)
  | n + 1, c, .UnaryOp .USub e _, lm, σ, Q => WE n c e lm σ fun v σ₁ => (match v with
      | .int i => Q (.int (-i)) σ₁
      | _ => False)
  | n + 1, c, .BinOp l op r _, lm, σ, Q => WE n c l lm σ fun a σ₁ => WE n c r lm σ₁ fun b σ₂ => WBin op a b fun v => Q v σ₂
  | n + 1, c, .Compare l [op] [r] _, lm, σ, Q => isSetD r = false ∧ WE n c l lm σ fun a σ₁ => WE n c r lm σ₁ fun b σ₂ => WCmp op a b σ₂ fun v => Q (.bool v) σ₂
  | n + 1, c, .IfExp t a b _, lm, σ, Q => WT n c t lm σ fun v σ₁ => if v = true then WE n c a lm σ₁ Q else WE n c b lm σ₁ Q
  | n + 1, c, .Call (.Attribute o m ap) args [] p, lm, σ, Q => okM o args ap p = true ∧ WE n c o lm σ fun ov σ₁ => WGet ov m σ₁ fun f => isMet f = true ∧ WL n c args lm σ₁ fun vs σ₂ => WMe n c f ov vs σ₂ Q
  | n + 1, c, .Call (.Name f p) args [] _, lm, σ, Q => okArgs args = true ∧ WE n c (.Name f p) lm σ fun fv σ₁ => isFun fv = true ∧ WL n c args lm σ₁ fun vs σ₂ => WCa n c fv vs σ₂ Q
  | n + 1, c, .Attribute o m _, lm, σ, Q => isCall o = false ∧ WE n c o lm σ fun ov σ₁ => WAttr ov m σ₁ fun v => Q v σ₁
  | n + 1, c, .Subscript o (.Slice none (some u) none _) _, lm, σ, Q => WE n c o lm σ fun ov σ₁ => WE n c u lm σ₁ fun uv σ₂ => (match uv with
      | .int h => WCut ov none (some h) σ₂ Q
      | _ => False)
  | n + 1, c, .Subscript o (.Slice (some l) (some u) none _) _, lm, σ, Q => WE n c o lm σ fun ov σ₁ => WE n c l lm σ₁ fun lv σ₂ => WE n c u lm σ₂ fun uv σ₃ => (match lv, uv with
      | .int g, .int h => WCut ov (some g) (some h) σ₃ Q
      | _, _ => False)
  | n + 1, c, .Subscript o (.Constant k j p) _, lm, σ, Q => WE n c o lm σ fun ov σ₁ => WE n c (.Constant k j p) lm σ₁ fun iv σ₂ => WItem ov iv σ₂ fun v => Q v σ₂
  | n + 1, c, .Subscript o (.Name x p) _, lm, σ, Q => WE n c o lm σ fun ov σ₁ => WE n c (.Name x p) lm σ₁ fun iv σ₂ => WItem ov iv σ₂ fun v => Q v σ₂
  | n + 1, c, .Subscript o (.BinOp a op b p) _, lm, σ, Q => WE n c o lm σ fun ov σ₁ => WE n c (.BinOp a op b p) lm σ₁ fun iv σ₂ => WItem ov iv σ₂ fun v => Q v σ₂
  | n + 1, c, .Subscript o (.Subscript a b p) _, lm, σ, Q => WE n c o lm σ fun ov σ₁ => WE n c (.Subscript a b p) lm σ₁ fun iv σ₂ => WItem ov iv σ₂ fun v => Q v σ₂
  | n + 1, c, .Subscript o (.Call a b d p) _, lm, σ, Q => WE n c o lm σ fun ov σ₁ => WE n c (.Call a b d p) lm σ₁ fun iv σ₂ => WItem ov iv σ₂ fun v => Q v σ₂
  | n + 1, c, .List es _, lm, σ, Q => noStar es = true ∧ WL n c es lm σ fun vs σ₁ => vs.length ≤ 1000000 ∧ ∀ a, σ₁ a = none → Q (.ref a) (sset σ₁ a (.list vs))
  | n + 1, c, .Tuple es _ _, lm, σ, Q => noStar es = true ∧ WL n c es lm σ fun vs σ₁ => vs.length ≤ 1000000 ∧ Q (.tup vs) σ₁
  | n + 1, c, .Dict [] [] _, lm, σ, Q => ∀ a, σ a = none → Q (.ref a) (sset σ a .edict)
  | n + 1, c,   .ListComp elt [⟨.Name x _, iter, ifs, ia⟩] sc _, lm, σ, Q => ia = 0 ∧ (isSetD iter = false ∧ okLc c.kind sc x = true) ∧ ∃ p f, WE n c iter lm σ fun iv σ₁ => WLc n c elt x ifs sc lm iv p f σ₁ Q
  | _, _, _, _, _, _ => False

noncomputable def WT : Nat → Cx → Expr → LM → Sg → (Bool → Sg → Prop) → Prop
  | 0, _, _, _, _, _ => False
  | n + 1, c, .BoolOp op es _, lm, σ, Q => WTb n c op es lm σ Q
  | n + 1, c, .UnaryOp .Not e _, lm, σ, Q => WT n c e lm σ fun b σ₁ => Q (!b) σ₁
  | n + 1, c, .Compare l [op] [r] _, lm, σ, Q => isSetD r = false ∧ WE n c l lm σ fun a σ₁ => WE n c r lm σ₁ fun b σ₂ => WCmp op a b σ₂ fun v => Q v σ₂
  | n + 1, c, .Name x p, lm, σ, Q => WE n c (.Name x p) lm σ fun v σ₁ => (match v with
      | .bool b => Q b σ₁
      | _ => False)
  | n + 1, c, .Constant k j p, lm, σ, Q => WE n c (.Constant k j p) lm σ fun v σ₁ => (match v with
      | .bool b => Q b σ₁
      | _ => False)
  | n + 1, c, .Call a b d p, lm, σ, Q => WE n c (.Call a b d p) lm σ fun v σ₁ => (match v with
      | .bool b => Q b σ₁
      | _ => False)
  | _, _, _, _, _, _ => False

noncomputable def WBo : Nat → Cx → BoolOp → List Expr → LM → Sg → (PV → Sg → Prop) → Prop
  | 0, _, _, _, _, _, _ => False
  | n + 1, c, op, [e], lm, σ, Q => WE n c e lm σ Q
  | n + 1, c, op, e :: r, lm, σ, Q => WE n c e lm σ fun v σ₁ => (match v, op with
      | .bool b, .And => if b = true then WBo n c op r lm σ₁ Q else Q (.bool false) σ₁
      | .bool b, .Or => if b = true then Q (.bool true) σ₁ else WBo n c op r lm σ₁ Q
      | _, _ => False)
  | _, _, _, _, _, _, _ => False

noncomputable def WTb : Nat → Cx → BoolOp → List Expr → LM → Sg → (Bool → Sg → Prop) → Prop
  | 0, _, _, _, _, _, _ => False
  | n + 1, c, op, [], lm, σ, Q => Q (match op with | .And => true | .Or => false) σ
  | n + 1, c, op, e :: r, lm, σ, Q => WT n c e lm σ fun b σ₁ => (match op with
      | .And => if b = true then WTb n c op r lm σ₁ Q else Q false σ₁
      | .Or => if b = true then Q true σ₁ else WTb n c op r lm σ₁ Q)

noncomputable def WL : Nat → Cx → List Expr → LM → Sg → (List PV → Sg → Prop) → Prop
  | 0, _, _, _, _, _ => False
  | n + 1, c, [], lm, σ, Q => Q [] σ
  | n + 1, c, e :: r, lm, σ, Q => WE n c e lm σ fun v σ₁ => WL n c r lm σ₁ fun vs σ₂ => Q (v :: vs) σ₂

/-- a comprehension: its tests and its element leave all as it was -/
noncomputable def WLc : Nat → Cx → Expr → Str → List Expr → Scope → LM → PV → (PV → Bool) → (PV → PV) → Sg → (PV → Sg → Prop) → Prop
  | 0, _, _, _, _, _, _, _, _, _, _, _ => False
  | n + 1, c, elt, x, ifs, sc, lm, iv, p, f, σ, Q => ∃ vs, items iv σ = some vs ∧ vs.length ≤ 1000000 ∧ vs.all isSI = true ∧
      (∀ v ∈ vs, WTs n ⟨fun y => sc.names.lookup y, c.d⟩ ifs (upd (fun y => if sc.names.lookup y = some .free then lm y else none) x v) noSg fun b _ => b = p v) ∧
      (∀ v ∈ vs, p v = true → WE n ⟨fun y => sc.names.lookup y, c.d⟩ elt (upd (fun y => if sc.names.lookup y = some .free then lm y else none) x v) noSg fun u _ => u = f v ∧ isSI u = true) ∧
      ∀ a, σ a = none → Q (.ref a) (sset σ a (.list ((vs.filter p).map f)))

noncomputable def WTs : Nat → Cx → List Expr → LM → Sg → (Bool → Sg → Prop) → Prop
  | 0, _, _, _, _, _ => False
  | n + 1, c, [], lm, σ, Q => Q true σ
  | n + 1, c, [e], lm, σ, Q => WT n c e lm σ Q
  | _, _, _, _, _, _ => False

noncomputable def WCf : Nat → Cx → Addr → List PV → Sg → (PV → Sg → Prop) → Prop
  | 0, _, _, _, _, _ => False
  | n + 1, c, a, vs, σ, Q => (match fnAt a, c.d with
      | some f, d + 1 => (match bindF f vs with
          | some lm => WSS n ⟨f.kind, d⟩ f.body lm σ fun fl _ σ' => ∃ τ, sle τ σ' ∧ (match fl with
              | .ret v => Q v τ
              | .next => Q .none τ
              | _ => False)
          | none => False)
      | _, _ => False)

noncomputable def WCa : Nat → Cx → PV → List PV → Sg → (PV → Sg → Prop) → Prop
  | 0, _, _, _, _, _ => False
  | n + 1, c, fv, vs, σ, Q => (match fv with
      | .con (.builtin id) => WFun id vs σ Q
      | .con (.type T) => WTyp T vs σ Q
      | .ref a => (match initAt a with
          | some fi => ∀ x dx, x ≠ dx → σ x = none → σ dx = none → WCf n c fi (.ref x :: vs) (sset (sset σ dx (.flds [])) x (.inst a dx)) fun v σ' => v = .none ∧ Q (.ref x) σ'
          | none => WCf n c a vs σ Q)
      | _ => False)

noncomputable def WMe : Nat → Cx → Addr ⊕ String → PV → List PV → Sg → (PV → Sg → Prop) → Prop
  | 0, _, _, _, _, _, _ => False
  | n + 1, c, .inl f, o, vs, σ, Q => WCf n c f (o :: vs) σ Q
  | n + 1, c, .inr id, o, vs, σ, Q => WMet id o vs σ Q

noncomputable def WS : Nat → Cx → Stmt → LM → Sg → (Fl → LM → Sg → Prop) → Prop
  | 0, _, _, _, _, _ => False
  | n + 1, c, .Return (some e) _, lm, σ, Q => WE n c e lm σ fun v σ₁ => Q (.ret v) lm σ₁
  | n + 1, c, .Return none _, lm, σ, Q => Q (.ret .none) lm σ
  | n + 1, c, .Assign [.Name x p] (.ListComp elt [⟨.Name y _, iter, ifs, ia⟩] sc q) r, lm, σ, Q => ia = 0 ∧ ((isSetD iter = false ∧ okLc c.kind sc y = true) ∧ c.kind x = some .local ∧ (p.line == q.line && !(sc.names.any fun z => z.1 == x && (z.2 == .local || z.2 == .cell))) = true) ∧ ∃ p f, WE n c iter lm σ fun iv σ₁ => WLc n c elt y ifs sc lm iv p f σ₁ fun v σ₂ => Q .next (upd lm x v) σ₂
  | n + 1, c, .Assign [.Name x _] e _, lm, σ, Q => (isComp e = false ∧ (c.kind x = some .local ∨ c.kind x = some .cell)) ∧ WE n c e lm σ fun v σ₁ => Q .next (upd lm x v) σ₁
  | n + 1, c, .Assign [.Attribute o m _] e _, lm, σ, Q => WE n c e lm σ fun v σ₁ => WE n c o lm σ₁ fun ov σ₂ => WSetAttr ov m v σ₂ fun σ₃ => Q .next lm σ₃
  | n + 1, c, .Assign [.Subscript o i _] e _, lm, σ, Q => WE n c e lm σ fun v σ₁ => WE n c o lm σ₁ fun ov σ₂ => WE n c i lm σ₂ fun iv σ₃ => WSetItem ov iv v σ₃ fun σ₄ => Q .next lm σ₄
  | n + 1, c, .AugAssign (.Name x p) op e _, lm, σ, Q => c.kind x = some .local ∧ WE n c (.Name x p) lm σ fun o σ₁ => WE n c e lm σ₁ fun v σ₂ => WBin op o v fun u => Q .next (upd lm x u) σ₂
  | n + 1, c, .AugAssign (.Subscript o i _) op e _, lm, σ, Q => isSlice i = false ∧ WE n c o lm σ fun ov σ₁ => WE n c i lm σ₁ fun iv σ₂ => WItem ov iv σ₂ fun old => WE n c e lm σ₂ fun v σ₃ => WBin op old v fun u => WSetItem ov iv u σ₃ fun σ₄ => Q .next lm σ₄
  | n + 1, c, .If t a b _, lm, σ, Q => WT n c t lm σ fun v σ₁ => if v = true then WSS n c a lm σ₁ Q else WSS n c b lm σ₁ Q
  | n + 1, c, .For (.Name x _) e b [] _, lm, σ, Q => (isSetD e = false ∧ c.kind x = some .local) ∧ WE n c e lm σ fun iv σ₁ => ∃ vs, items iv σ₁ = some vs ∧ vs.length ≤ 1000000 ∧ forW (fun lm' σ' Q' => WSS n c b lm' σ' Q') x vs lm (hide iv σ₁) Q
  | n + 1, c, .While t b [] p, lm, σ, Q => WT n c t lm σ fun v σ₁ => if v = true then WSS n c b lm σ₁ (fun fl lm' σ' => match fl with
      | .next | .cont => WS n c (.While t b [] p) lm' σ' Q
      | .brk => Q .next lm' σ'
      | .ret u => Q (.ret u) lm' σ') else Q .next lm σ₁
  | n + 1, c, .Expr e _, lm, σ, Q => isComp e = false ∧ WE n c e lm σ fun v σ₁ => (match v with
      | .none | .int _ | .bool _ | .str _ => Q .next lm σ₁
      | _ => False)
  | n + 1, c, .Break _, lm, σ, Q => Q .brk lm σ
  | _, _, _, _, _, _ => False

noncomputable def WSS : Nat → Cx → List Stmt → LM → Sg → (Fl → LM → Sg → Prop) → Prop
  | 0, _, _, _, _, _ => False
  | n + 1, c, [], lm, σ, Q => Q .next lm σ
  | n + 1, c, s :: r, lm, σ, Q => WS n c s lm σ fun fl lm' σ' => (match fl with
      | .next => WSS n c r lm' σ' Q
      | fl => Q fl lm' σ')
end
end
section
open PySem PySem.W PyProof.Rows
noncomputable def Fn.data (f : Fn) : FuncData :=
  { name := nameOf f.st, qualname := f.qual, params := argsOf f.st, body := .stmts (bodyOf f.st), scope := scopeOf f.st, globals := mainGlobals, closure := [], defaults := f.dflt, kwdefaults := .none, doc := .none, pyModule := .str f.mod f.mtok, annotations := none, code := .ref f.code, closureTuple := .none, builtins := builtinsNs }
noncomputable def Fn.obj (f : Fn) : Obj := { cls := .type "function", dict := none, data := .func f.data, slots := #[] }
noncomputable def codeO (vs : Array Value) : Obj := { cls := .type "code", dict := none, data := .fields vs, slots := #[] }
noncomputable def tupO (vs : Array Value) : Obj := { cls := .type "tuple", dict := none, data := .seq vs 0, slots := #[] }
noncomputable def dictO (P : Params) (n : Nat) (es : List (Str × Tok × Value)) : Obj := { cls := .type "dict", dict := none, data := .dict (es.map fun e => (⟨PyData.keyHash P e.1, .str e.1 e.2.1, e.2.2⟩ : DictEntry)).toArray n, slots := #[] }
noncomputable def clsO (name : Str) (C ns : Addr) (t u : Tok) : Obj :=
  { cls := .type "type", dict := none, slots := #[none, none, some (.str name t), some (.str name u), some (.builtin "object.__new__"), some (.bool true)],
    data := .cls { name, bases := [.type "object"], mro := [.ref C, .type "object"], ns, qualname := name, hasDict := true, slotNames := [], subclasses := [], abstract := false, collection := none, hasDel := false } }
/-- a def's code: its name, its qualified name, the file, its first row, its arguments' number .. -/
noncomputable def cO (nm q : Str) (t : Tok) (row k x y z : Int) (a : Addr) (b : Bool) (e : Int) (c : Addr) (f g : Value) (h : Addr) (i : Int) (l : Tok) : Obj :=
  codeO #[.str nm t, .str q (t + 1), .str "/claim/cut.py" (t + 2), .int row 0, .int k 0, .int x 0, .int y 0, .int z 0, .ref a, .bool b, .int e 0, .ref c, .none, f, g, .ref h, .int i 0, .int row 0, .str "/claim/cut.py" l]

noncomputable def ents3 : List (Str × Tok × Value) := [
  (Str.ofString "__name__", 165, .str "law_no0173_01" 754), (Str.ofString "__doc__", 166, .none), (Str.ofString "__package__", 167, .none), (Str.ofString "__loader__", 168, .builtin "__main__.__loader__#opaque"), (Str.ofString "__spec__", 169, .none),
  (Str.ofString "__annotations__", 170, .ref 6), (Str.ofString "__builtins__", 171, .ref 4), (Str.ofString "__file__", 173, .str "/claim/cut.py" 172), (Str.ofString "__cached__", 174, .none), (Str.ofString "_wall", 193, .ref 21),
  (Str.ofString "MAX_CODE", 197, .int (1114111) 196), (Str.ofString "is_layout", 204, .ref 28), (Str.ofString "is_digit", 211, .ref 35), (Str.ofString "is_small", 218, .ref 42), (Str.ofString "is_capital", 225, .ref 49),
  (Str.ofString "is_alnum", 232, .ref 56), (Str.ofString "is_symbol", 239, .ref 63), (Str.ofString "is_quotable", 246, .ref 70), (Str.ofString "digit_value", 253, .ref 77), (Str.ofString "codes_text", 259, .ref 82),
  (Str.ofString "is_alnum_name", 267, .ref 89), (Str.ofString "is_symbol_name", 275, .ref 96), (Str.ofString "is_plain_name", 282, .ref 103), (Str.ofString "escaped", 292, .ref 110), (Str.ofString "quoted_text", 301, .ref 117),
  (Str.ofString "atom_text", 311, .ref 125), (Str.ofString "ClausemillError", 333, .ref 135), (Str.ofString "SyntaxFault", 364, .ref 155), (Str.ofString "fixed_atoms", 370, .ref 164), (Str.ofString "fixed_functors", 376, .ref 171),
  (Str.ofString "Symbols", 495, .ref 258), (Str.ofString "NO_CODE", 500, .int (-1) 499), (Str.ofString "BAD_CODE", 503, .int (-2) 502), (Str.ofString "NEW_LINE", 505, .int (10) 504), (Str.ofString "DOUBLE_QUOTE", 507, .int (34) 506),
  (Str.ofString "PERCENT", 509, .int (37) 508), (Str.ofString "QUOTE", 511, .int (39) 510), (Str.ofString "OPEN", 513, .int (40) 512), (Str.ofString "STAR", 515, .int (42) 514), (Str.ofString "DOT", 517, .int (46) 516),
  (Str.ofString "SLASH", 519, .int (47) 518), (Str.ofString "DIGIT_ZERO", 521, .int (48) 520), (Str.ofString "BACKSLASH", 523, .int (92) 522), (Str.ofString "UNDERSCORE", 525, .int (95) 524), (Str.ofString "BACK_QUOTE", 527, .int (96) 526),
  (Str.ofString "LETTER_B", 529, .int (98) 528), (Str.ofString "LETTER_O", 531, .int (111) 530), (Str.ofString "LETTER_X", 533, .int (120) 532), (Str.ofString "simple_escape", 542, .ref 269), (Str.ofString "numeral_base", 549, .ref 276),
  (Str.ofString "Tokenizer", 753, .ref 413), (Str.ofString "_law_pool", 768, .ref 424), (Str.ofString "_law_pick", 777, .ref 431), (Str.ofString "_law_name", 788, .ref 438), (Str.ofString "_law_bare", 794, .ref 443),
  (Str.ofString "law", 800, .ref 448)]
noncomputable def ents257 : List (Str × Tok × Value) := [
  (Str.ofString "__module__", 384, .str "clausemill.symbols" 312), (Str.ofString "__firstlineno__", 388, .int (85) 387), (Str.ofString "__init__", 397, .ref 185), (Str.ofString "atom", 407, .ref 192), (Str.ofString "text", 415, .ref 199),
  (Str.ofString "functor", 427, .ref 206), (Str.ofString "func", 436, .ref 213), (Str.ofString "name", 444, .ref 220), (Str.ofString "arity", 452, .ref 227), (Str.ofString "label", 460, .ref 234),
  (Str.ofString "count", 467, .ref 241), (Str.ofString "functor_count", 474, .ref 248), (Str.ofString "known", 483, .ref 255), (Str.ofString "__static_attributes__", 488, .ref 256), (Str.ofString "__dict__", 490, .ref 259),
  (Str.ofString "__weakref__", 492, .ref 260), (Str.ofString "__doc__", 493, .none)]
noncomputable def ents412 : List (Str × Tok × Value) := [
  (Str.ofString "__module__", 557, .str "clausemill.tokens" 496), (Str.ofString "__firstlineno__", 561, .int (173) 560), (Str.ofString "__init__", 571, .ref 291), (Str.ofString "code_at", 580, .ref 298), (Str.ofString "place", 591, .ref 305),
  (Str.ofString "fault", 602, .ref 312), (Str.ofString "next", 613, .ref 319), (Str.ofString "skip_clause", 620, .ref 326), (Str.ofString "skip_layout", 628, .ref 333), (Str.ofString "skip_row", 636, .ref 340),
  (Str.ofString "skip_remark", 645, .ref 347), (Str.ofString "word", 654, .ref 354), (Str.ofString "symbol", 663, .ref 361), (Str.ofString "ends_at", 672, .ref 368), (Str.ofString "numeral", 684, .ref 375),
  (Str.ofString "digits", 695, .ref 382), (Str.ofString "character", 705, .ref 389), (Str.ofString "quoted", 718, .ref 396), (Str.ofString "escape", 732, .ref 403), (Str.ofString "abandon", 742, .ref 410),
  (Str.ofString "__static_attributes__", 746, .ref 411), (Str.ofString "__dict__", 748, .ref 414), (Str.ofString "__weakref__", 750, .ref 415), (Str.ofString "__doc__", 751, .none)]
noncomputable def frag1 : Frag := [
  (28, f_is_layout.obj), (35, f_is_digit.obj), (42, f_is_small.obj), (49, f_is_capital.obj), (56, f_is_alnum.obj), (63, f_is_symbol.obj),
  (70, f_is_quotable.obj), (77, f_digit_value.obj), (82, f_codes_text.obj), (89, f_is_alnum_name.obj), (96, f_is_symbol_name.obj), (103, f_is_plain_name.obj),
  (110, f_escaped.obj), (117, f_quoted_text.obj), (125, f_atom_text.obj), (164, f_fixed_atoms.obj), (171, f_fixed_functors.obj), (185, f_Symbols_init.obj),
  (192, f_Symbols_atom.obj), (199, f_Symbols_text.obj), (206, f_Symbols_functor.obj), (213, f_Symbols_func.obj), (269, f_simple_escape.obj), (291, f_Tokenizer_init.obj),
  (298, f_Tokenizer_code_at.obj), (319, f_Tokenizer_next.obj), (333, f_Tokenizer_skip_layout.obj), (354, f_Tokenizer_word.obj), (361, f_Tokenizer_symbol.obj), (368, f_Tokenizer_ends_at.obj),
  (396, f_Tokenizer_quoted.obj), (403, f_Tokenizer_escape.obj), (424, f_law_pool.obj), (431, f_law_pick.obj), (438, f_law_name.obj), (443, f_law_bare.obj),
  (448, f_law.obj), (27, codeO #[.str "is_layout" 198, .str "is_layout" 199, .str "/claim/cut.py" 200, .int (6) 0, .int (1) 0, .int (0) 0, .int (0) 0, .int (3) 0, .ref 22, .bool true, .int (181) 0, .ref 23, .none, .ref 24, .ref 25, .ref 26, .int (202) 0, .int (6) 0, .str "/claim/cut.py" 203]), (34, codeO #[.str "is_digit" 205, .str "is_digit" 206, .str "/claim/cut.py" 207, .int (8) 0, .int (1) 0, .int (0) 0, .int (0) 0, .int (3) 0, .ref 29, .bool true, .int (181) 0, .ref 30, .none, .ref 31, .ref 32, .ref 33, .int (209) 0, .int (8) 0, .str "/claim/cut.py" 210]), (41, codeO #[.str "is_small" 212, .str "is_small" 213, .str "/claim/cut.py" 214, .int (10) 0, .int (1) 0, .int (0) 0, .int (0) 0, .int (3) 0, .ref 36, .bool true, .int (181) 0, .ref 37, .none, .ref 38, .ref 39, .ref 40, .int (216) 0, .int (10) 0, .str "/claim/cut.py" 217]), (48, codeO #[.str "is_capital" 219, .str "is_capital" 220, .str "/claim/cut.py" 221, .int (12) 0, .int (1) 0, .int (0) 0, .int (0) 0, .int (3) 0, .ref 43, .bool true, .int (181) 0, .ref 44, .none, .ref 45, .ref 46, .ref 47, .int (223) 0, .int (12) 0, .str "/claim/cut.py" 224]), (55, codeO #[.str "is_alnum" 226, .str "is_alnum" 227, .str "/claim/cut.py" 228, .int (14) 0, .int (1) 0, .int (0) 0, .int (0) 0, .int (3) 0, .ref 50, .bool true, .int (181) 0, .ref 51, .none, .ref 52, .ref 53, .ref 54, .int (230) 0, .int (14) 0, .str "/claim/cut.py" 231])]
noncomputable def frag2 : Frag := [
  (27, codeO #[.str "is_layout" 198, .str "is_layout" 199, .str "/claim/cut.py" 200, .int (6) 0, .int (1) 0, .int (0) 0, .int (0) 0, .int (3) 0, .ref 22, .bool true, .int (181) 0, .ref 23, .none, .ref 24, .ref 25, .ref 26, .int (202) 0, .int (6) 0, .str "/claim/cut.py" 203]),
  (34, codeO #[.str "is_digit" 205, .str "is_digit" 206, .str "/claim/cut.py" 207, .int (8) 0, .int (1) 0, .int (0) 0, .int (0) 0, .int (3) 0, .ref 29, .bool true, .int (181) 0, .ref 30, .none, .ref 31, .ref 32, .ref 33, .int (209) 0, .int (8) 0, .str "/claim/cut.py" 210]),
  (41, codeO #[.str "is_small" 212, .str "is_small" 213, .str "/claim/cut.py" 214, .int (10) 0, .int (1) 0, .int (0) 0, .int (0) 0, .int (3) 0, .ref 36, .bool true, .int (181) 0, .ref 37, .none, .ref 38, .ref 39, .ref 40, .int (216) 0, .int (10) 0, .str "/claim/cut.py" 217]),
  (48, codeO #[.str "is_capital" 219, .str "is_capital" 220, .str "/claim/cut.py" 221, .int (12) 0, .int (1) 0, .int (0) 0, .int (0) 0, .int (3) 0, .ref 43, .bool true, .int (181) 0, .ref 44, .none, .ref 45, .ref 46, .ref 47, .int (223) 0, .int (12) 0, .str "/claim/cut.py" 224]),
  (55, codeO #[.str "is_alnum" 226, .str "is_alnum" 227, .str "/claim/cut.py" 228, .int (14) 0, .int (1) 0, .int (0) 0, .int (0) 0, .int (3) 0, .ref 50, .bool true, .int (181) 0, .ref 51, .none, .ref 52, .ref 53, .ref 54, .int (230) 0, .int (14) 0, .str "/claim/cut.py" 231]),
  (62, codeO #[.str "is_symbol" 233, .str "is_symbol" 234, .str "/claim/cut.py" 235, .int (16) 0, .int (1) 0, .int (0) 0, .int (0) 0, .int (3) 0, .ref 57, .bool true, .int (181) 0, .ref 58, .none, .ref 59, .ref 60, .ref 61, .int (237) 0, .int (16) 0, .str "/claim/cut.py" 238]),
  (69, codeO #[.str "is_quotable" 240, .str "is_quotable" 241, .str "/claim/cut.py" 242, .int (18) 0, .int (1) 0, .int (0) 0, .int (0) 0, .int (3) 0, .ref 64, .bool true, .int (181) 0, .ref 65, .none, .ref 66, .ref 67, .ref 68, .int (244) 0, .int (18) 0, .str "/claim/cut.py" 245]),
  (76, codeO #[.str "digit_value" 247, .str "digit_value" 248, .str "/claim/cut.py" 249, .int (20) 0, .int (1) 0, .int (0) 0, .int (0) 0, .int (3) 0, .ref 71, .bool true, .int (181) 0, .ref 72, .none, .ref 73, .ref 74, .ref 75, .int (251) 0, .int (20) 0, .str "/claim/cut.py" 252]),
  (81, codeO #[.str "codes_text" 254, .str "codes_text" 255, .str "/claim/cut.py" 256, .int (28) 0, .int (1) 0, .int (0) 0, .int (0) 0, .int (3) 0, .ref 78, .bool true, .int (181) 0, .ref 79, .none, .none, .none, .ref 80, .int (257) 0, .int (28) 0, .str "/claim/cut.py" 258]),
  (88, codeO #[.str "is_alnum_name" 260, .str "is_alnum_name" 261, .str "/claim/cut.py" 262, .int (30) 0, .int (1) 0, .int (0) 0, .int (0) 0, .int (3) 0, .ref 83, .bool true, .int (181) 0, .ref 84, .none, .ref 85, .ref 86, .ref 87, .int (265) 0, .int (30) 0, .str "/claim/cut.py" 266]),
  (95, codeO #[.str "is_symbol_name" 268, .str "is_symbol_name" 269, .str "/claim/cut.py" 270, .int (37) 0, .int (1) 0, .int (0) 0, .int (0) 0, .int (3) 0, .ref 90, .bool true, .int (181) 0, .ref 91, .none, .ref 92, .ref 93, .ref 94, .int (273) 0, .int (37) 0, .str "/claim/cut.py" 274]),
  (102, codeO #[.str "is_plain_name" 276, .str "is_plain_name" 277, .str "/claim/cut.py" 278, .int (44) 0, .int (1) 0, .int (0) 0, .int (0) 0, .int (3) 0, .ref 97, .bool true, .int (181) 0, .ref 98, .none, .ref 99, .ref 100, .ref 101, .int (280) 0, .int (44) 0, .str "/claim/cut.py" 281]),
  (109, codeO #[.str "escaped" 285, .str "escaped" 286, .str "/claim/cut.py" 287, .int (51) 0, .int (1) 0, .int (0) 0, .int (0) 0, .int (3) 0, .ref 104, .bool true, .int (181) 0, .ref 105, .none, .ref 106, .ref 107, .ref 108, .int (290) 0, .int (51) 0, .str "/claim/cut.py" 291]),
  (116, codeO #[.str "quoted_text" 293, .str "quoted_text" 294, .str "/claim/cut.py" 295, .int (60) 0, .int (1) 0, .int (0) 0, .int (0) 0, .int (3) 0, .ref 111, .bool true, .int (181) 0, .ref 112, .none, .ref 113, .ref 114, .ref 115, .int (299) 0, .int (60) 0, .str "/claim/cut.py" 300]),
  (124, codeO #[.str "atom_text" 302, .str "atom_text" 303, .str "/claim/cut.py" 304, .int (66) 0, .int (3) 0, .int (0) 0, .int (0) 0, .int (3) 0, .ref 119, .bool true, .int (181) 0, .ref 120, .none, .ref 121, .ref 122, .ref 123, .int (309) 0, .int (66) 0, .str "/claim/cut.py" 310]),
  (163, codeO #[.str "fixed_atoms" 365, .str "fixed_atoms" 366, .str "/claim/cut.py" 367, .int (81) 0, .int (0) 0, .int (0) 0, .int (0) 0, .int (3) 0, .ref 158, .bool true, .int (181) 0, .ref 159, .none, .ref 160, .ref 161, .ref 162, .int (368) 0, .int (81) 0, .str "/claim/cut.py" 369]),
  (170, codeO #[.str "fixed_functors" 371, .str "fixed_functors" 372, .str "/claim/cut.py" 373, .int (83) 0, .int (0) 0, .int (0) 0, .int (0) 0, .int (3) 0, .ref 165, .bool true, .int (181) 0, .ref 166, .none, .ref 167, .ref 168, .ref 169, .int (374) 0, .int (83) 0, .str "/claim/cut.py" 375]),
  (184, codeO #[.str "__init__" 389, .str "Symbols.__init__" 390, .str "/claim/cut.py" 391, .int (87) 0, .int (1) 0, .int (0) 0, .int (0) 0, .int (3) 0, .ref 179, .bool true, .int (181) 0, .ref 180, .none, .ref 181, .ref 182, .ref 183, .int (395) 0, .int (87) 0, .str "/claim/cut.py" 396]),
  (191, codeO #[.str "atom" 398, .str "Symbols.atom" 399, .str "/claim/cut.py" 400, .int (97) 0, .int (2) 0, .int (0) 0, .int (0) 0, .int (3) 0, .ref 186, .bool true, .int (181) 0, .ref 187, .none, .ref 188, .ref 189, .ref 190, .int (405) 0, .int (97) 0, .str "/claim/cut.py" 406]),
  (198, codeO #[.str "text" 408, .str "Symbols.text" 409, .str "/claim/cut.py" 410, .int (106) 0, .int (2) 0, .int (0) 0, .int (0) 0, .int (3) 0, .ref 193, .bool true, .int (181) 0, .ref 194, .none, .ref 195, .ref 196, .ref 197, .int (413) 0, .int (106) 0, .str "/claim/cut.py" 414]),
  (205, codeO #[.str "functor" 416, .str "Symbols.functor" 417, .str "/claim/cut.py" 418, .int (109) 0, .int (3) 0, .int (0) 0, .int (0) 0, .int (3) 0, .ref 200, .bool true, .int (181) 0, .ref 201, .none, .ref 202, .ref 203, .ref 204, .int (425) 0, .int (109) 0, .str "/claim/cut.py" 426]),
  (212, codeO #[.str "func" 428, .str "Symbols.func" 429, .str "/claim/cut.py" 430, .int (119) 0, .int (3) 0, .int (0) 0, .int (0) 0, .int (3) 0, .ref 207, .bool true, .int (181) 0, .ref 208, .none, .ref 209, .ref 210, .ref 211, .int (434) 0, .int (119) 0, .str "/claim/cut.py" 435]),
  (268, codeO #[.str "simple_escape" 534, .str "simple_escape" 535, .str "/claim/cut.py" 536, .int (157) 0, .int (1) 0, .int (0) 0, .int (0) 0, .int (3) 0, .ref 263, .bool true, .int (181) 0, .ref 264, .none, .ref 265, .ref 266, .ref 267, .int (540) 0, .int (157) 0, .str "/claim/cut.py" 541]),
  (290, codeO #[.str "__init__" 563, .str "Tokenizer.__init__" 564, .str "/claim/cut.py" 565, .int (175) 0, .int (3) 0, .int (0) 0, .int (0) 0, .int (3) 0, .ref 285, .bool true, .int (181) 0, .ref 286, .none, .ref 287, .ref 288, .ref 289, .int (569) 0, .int (175) 0, .str "/claim/cut.py" 570]),
  (297, codeO #[.str "code_at" 572, .str "Tokenizer.code_at" 573, .str "/claim/cut.py" 574, .int (180) 0, .int (2) 0, .int (0) 0, .int (0) 0, .int (3) 0, .ref 292, .bool true, .int (181) 0, .ref 293, .none, .ref 294, .ref 295, .ref 296, .int (578) 0, .int (180) 0, .str "/claim/cut.py" 579]),
  (318, codeO #[.str "next" 603, .str "Tokenizer.next" 604, .str "/claim/cut.py" 605, .int (205) 0, .int (1) 0, .int (0) 0, .int (0) 0, .int (3) 0, .ref 313, .bool true, .int (181) 0, .ref 314, .none, .ref 315, .ref 316, .ref 317, .int (611) 0, .int (205) 0, .str "/claim/cut.py" 612]),
  (332, codeO #[.str "skip_layout" 621, .str "Tokenizer.skip_layout" 622, .str "/claim/cut.py" 623, .int (242) 0, .int (1) 0, .int (0) 0, .int (0) 0, .int (3) 0, .ref 327, .bool true, .int (181) 0, .ref 328, .none, .ref 329, .ref 330, .ref 331, .int (626) 0, .int (242) 0, .str "/claim/cut.py" 627]),
  (353, codeO #[.str "word" 646, .str "Tokenizer.word" 647, .str "/claim/cut.py" 648, .int (273) 0, .int (2) 0, .int (0) 0, .int (0) 0, .int (3) 0, .ref 348, .bool true, .int (181) 0, .ref 349, .none, .ref 350, .ref 351, .ref 352, .int (652) 0, .int (273) 0, .str "/claim/cut.py" 653]),
  (360, codeO #[.str "symbol" 655, .str "Tokenizer.symbol" 656, .str "/claim/cut.py" 657, .int (280) 0, .int (2) 0, .int (0) 0, .int (0) 0, .int (3) 0, .ref 355, .bool true, .int (181) 0, .ref 356, .none, .ref 357, .ref 358, .ref 359, .int (661) 0, .int (280) 0, .str "/claim/cut.py" 662]),
  (367, codeO #[.str "ends_at" 664, .str "Tokenizer.ends_at" 665, .str "/claim/cut.py" 666, .int (290) 0, .int (2) 0, .int (0) 0, .int (0) 0, .int (3) 0, .ref 362, .bool true, .int (181) 0, .ref 363, .none, .ref 364, .ref 365, .ref 366, .int (670) 0, .int (290) 0, .str "/claim/cut.py" 671]),
  (395, codeO #[.str "quoted" 706, .str "Tokenizer.quoted" 707, .str "/claim/cut.py" 708, .int (340) 0, .int (3) 0, .int (0) 0, .int (0) 0, .int (3) 0, .ref 390, .bool true, .int (181) 0, .ref 391, .none, .ref 392, .ref 393, .ref 394, .int (716) 0, .int (340) 0, .str "/claim/cut.py" 717]),
  (402, codeO #[.str "escape" 719, .str "Tokenizer.escape" 720, .str "/claim/cut.py" 721, .int (369) 0, .int (1) 0, .int (0) 0, .int (0) 0, .int (3) 0, .ref 397, .bool true, .int (181) 0, .ref 398, .none, .ref 399, .ref 400, .ref 401, .int (730) 0, .int (369) 0, .str "/claim/cut.py" 731]),
  (423, codeO #[.str "_law_pool" 756, .str "_law_pool" 757, .str "/claim/cut.py" 758, .int (410) 0, .int (1) 0, .int (0) 0, .int (0) 0, .int (3) 0, .ref 418, .bool true, .int (181) 0, .ref 419, .none, .ref 420, .ref 421, .ref 422, .int (766) 0, .int (410) 0, .str "/claim/cut.py" 767]),
  (430, codeO #[.str "_law_pick" 769, .str "_law_pick" 770, .str "/claim/cut.py" 771, .int (425) 0, .int (2) 0, .int (0) 0, .int (0) 0, .int (3) 0, .ref 425, .bool true, .int (181) 0, .ref 426, .none, .ref 427, .ref 428, .ref 429, .int (775) 0, .int (425) 0, .str "/claim/cut.py" 776]),
  (437, codeO #[.str "_law_name" 778, .str "_law_name" 779, .str "/claim/cut.py" 780, .int (435) 0, .int (1) 0, .int (0) 0, .int (0) 0, .int (3) 0, .ref 432, .bool true, .int (181) 0, .ref 433, .none, .ref 434, .ref 435, .ref 436, .int (786) 0, .int (435) 0, .str "/claim/cut.py" 787]),
  (442, codeO #[.str "_law_bare" 789, .str "_law_bare" 790, .str "/claim/cut.py" 791, .int (451) 0, .int (1) 0, .int (0) 0, .int (0) 0, .int (3) 0, .ref 439, .bool true, .int (181) 0, .ref 440, .none, .none, .none, .ref 441, .int (792) 0, .int (451) 0, .str "/claim/cut.py" 793]),
  (447, codeO #[.str "law" 795, .str "law" 796, .str "/claim/cut.py" 797, .int (460) 0, .int (1) 0, .int (0) 0, .int (0) 0, .int (3) 0, .ref 444, .bool true, .int (181) 0, .ref 445, .none, .none, .none, .ref 446, .int (798) 0, .int (460) 0, .str "/claim/cut.py" 799])]
noncomputable def KK (P : Params) : Frag := (3, dictO P 56 ents3) :: (118, tupO #[.bool true]) :: (284, tupO #[.int 0 562]) :: (257, dictO P 4 ents257) :: (258, clsO "Symbols" 258 257 377 385) :: (412, dictO P 4 ents412) :: (413, clsO "Tokenizer" 413 412 550 558) :: (frag1 ++ frag2)
end
section
open PySem PySem.W PyProof.Rows PySem.Calls
noncomputable def z0 : Str := ⟨⟨[60, 109, 111, 100, 117, 108, 101, 62]⟩⟩
noncomputable def z1 : Str := ⟨⟨[47, 99, 108, 97, 105, 109, 47, 99, 117, 116, 46, 112, 121]⟩⟩
noncomputable def z2 : Str := ⟨⟨[95, 95, 109, 97, 105, 110, 95, 95]⟩⟩
noncomputable def z3 : Str := ⟨⟨[95, 95, 110, 97, 109, 101, 95, 95]⟩⟩
noncomputable def z4 : Str := ⟨⟨[99, 108, 97, 117, 115, 101, 109, 105, 108, 108, 46, 99, 104, 97, 114, 115]⟩⟩
noncomputable def z5 : Str := ⟨⟨[95, 95, 100, 111, 99, 95, 95]⟩⟩
noncomputable def z6 : Str := ⟨⟨[95, 95, 112, 97, 99, 107, 97, 103, 101, 95, 95]⟩⟩
noncomputable def z7 : Str := ⟨⟨[95, 95, 108, 111, 97, 100, 101, 114, 95, 95]⟩⟩
noncomputable def z8 : Str := ⟨⟨[95, 95, 115, 112, 101, 99, 95, 95]⟩⟩
noncomputable def z9 : Str := ⟨⟨[95, 95, 97, 110, 110, 111, 116, 97, 116, 105, 111, 110, 115, 95, 95]⟩⟩
noncomputable def z10 : Str := ⟨⟨[95, 95, 98, 117, 105, 108, 116, 105, 110, 115, 95, 95]⟩⟩
noncomputable def z11 : Str := ⟨⟨[95, 95, 102, 105, 108, 101, 95, 95]⟩⟩
noncomputable def z12 : Str := ⟨⟨[95, 95, 99, 97, 99, 104, 101, 100, 95, 95]⟩⟩
noncomputable def z13 : Str := ⟨⟨[95, 119, 97, 108, 108]⟩⟩
noncomputable def z14 : Str := ⟨⟨[77, 65, 88, 95, 67, 79, 68, 69]⟩⟩
noncomputable def z15 : Str := ⟨⟨[105, 115, 95, 108, 97, 121, 111, 117, 116]⟩⟩
noncomputable def z16 : Str := ⟨⟨[105, 115, 95, 100, 105, 103, 105, 116]⟩⟩
noncomputable def z17 : Str := ⟨⟨[105, 115, 95, 115, 109, 97, 108, 108]⟩⟩
noncomputable def z18 : Str := ⟨⟨[105, 115, 95, 99, 97, 112, 105, 116, 97, 108]⟩⟩
noncomputable def z19 : Str := ⟨⟨[105, 115, 95, 97, 108, 110, 117, 109]⟩⟩
noncomputable def z20 : Str := ⟨⟨[105, 115, 95, 115, 121, 109, 98, 111, 108]⟩⟩
noncomputable def z21 : Str := ⟨⟨[105, 115, 95, 113, 117, 111, 116, 97, 98, 108, 101]⟩⟩
noncomputable def z22 : Str := ⟨⟨[100, 105, 103, 105, 116, 95, 118, 97, 108, 117, 101]⟩⟩
noncomputable def z23 : Str := ⟨⟨[99, 111, 100, 101, 115, 95, 116, 101, 120, 116]⟩⟩
noncomputable def z24 : Str := ⟨⟨[105, 115, 95, 97, 108, 110, 117, 109, 95, 110, 97, 109, 101]⟩⟩
noncomputable def z25 : Str := ⟨⟨[105, 115, 95, 115, 121, 109, 98, 111, 108, 95, 110, 97, 109, 101]⟩⟩
noncomputable def z26 : Str := ⟨⟨[107]⟩⟩
noncomputable def z27 : Str := ⟨⟨[99, 111, 100, 101]⟩⟩
noncomputable def z28 : Str := ⟨⟨[116, 101, 120, 116]⟩⟩
noncomputable def z29 : Str := ⟨⟨[99, 104, 97, 114]⟩⟩
noncomputable def z30 : Str := ⟨⟨[116, 121, 112, 101, 46, 95, 95, 115, 117, 98, 99, 108, 97, 115, 115, 101, 115, 95, 95, 46, 69, 120, 99, 101, 112, 116, 105, 111, 110, 46, 48]⟩⟩
noncomputable def z31 : Str := ⟨⟨[116, 121, 112, 101, 46, 95, 95, 115, 117, 98, 99, 108, 97, 115, 115, 101, 115, 95, 95, 46, 69, 120, 99, 101, 112, 116, 105, 111, 110, 46, 110]⟩⟩
noncomputable def z32 : Str := ⟨⟨[99, 108, 97, 117, 115, 101, 109, 105, 108, 108, 46, 115, 121, 109, 98, 111, 108, 115]⟩⟩
noncomputable def z33 : Str := ⟨⟨[105, 115, 95, 112, 108, 97, 105, 110, 95, 110, 97, 109, 101]⟩⟩
noncomputable def z34 : Str := ⟨⟨[101, 115, 99, 97, 112, 101, 100]⟩⟩
noncomputable def z35 : Str := ⟨⟨[113, 117, 111, 116, 101, 100, 95, 116, 101, 120, 116]⟩⟩
noncomputable def z36 : Str := ⟨⟨[97, 116, 111, 109, 95, 116, 101, 120, 116]⟩⟩
noncomputable def z37 : Str := ⟨⟨[67, 108, 97, 117, 115, 101, 109, 105, 108, 108, 69, 114, 114, 111, 114]⟩⟩
noncomputable def z38 : Str := ⟨⟨[100, 105, 103, 105, 116, 115]⟩⟩
noncomputable def z39 : Str := ⟨⟨[99, 108, 97, 117, 115, 101, 109, 105, 108, 108, 46, 119, 114, 105, 116, 101, 114]⟩⟩
noncomputable def z40 : Str := ⟨⟨[112, 97, 114, 116, 115]⟩⟩
noncomputable def z41 : Str := ⟨⟨[115, 121, 109, 98, 111, 108, 115]⟩⟩
noncomputable def z42 : Str := ⟨⟨[97]⟩⟩
noncomputable def z43 : Str := ⟨⟨[113, 117, 111, 116, 101, 100]⟩⟩
noncomputable def z44 : Str := ⟨⟨[95, 95, 109, 111, 100, 117, 108, 101, 95, 95]⟩⟩
noncomputable def z45 : Str := ⟨⟨[95, 95, 113, 117, 97, 108, 110, 97, 109, 101, 95, 95]⟩⟩
noncomputable def z46 : Str := ⟨⟨[95, 95, 102, 105, 114, 115, 116, 108, 105, 110, 101, 110, 111, 95, 95]⟩⟩
noncomputable def z47 : Str := ⟨⟨[95, 95, 115, 116, 97, 116, 105, 99, 95, 97, 116, 116, 114, 105, 98, 117, 116, 101, 115, 95, 95]⟩⟩
noncomputable def z48 : Str := ⟨⟨[95, 95, 119, 101, 97, 107, 114, 101, 102, 95, 95]⟩⟩
noncomputable def z49 : Str := ⟨⟨[83, 121, 110, 116, 97, 120, 70, 97, 117, 108, 116]⟩⟩
noncomputable def z50 : Str := ⟨⟨[102, 105, 120, 101, 100, 95, 97, 116, 111, 109, 115]⟩⟩
noncomputable def z51 : Str := ⟨⟨[102, 105, 120, 101, 100, 95, 102, 117, 110, 99, 116, 111, 114, 115]⟩⟩
noncomputable def z52 : Str := ⟨⟨[95, 95, 105, 110, 105, 116, 95, 95]⟩⟩
noncomputable def z53 : Str := ⟨⟨[115, 101, 108, 102]⟩⟩
noncomputable def z54 : Str := ⟨⟨[107, 105, 110, 100]⟩⟩
noncomputable def z55 : Str := ⟨⟨[97, 116]⟩⟩
noncomputable def z56 : Str := ⟨⟨[114, 111, 119]⟩⟩
noncomputable def z57 : Str := ⟨⟨[99, 111, 108, 117, 109, 110]⟩⟩
noncomputable def z58 : Str := ⟨⟨[83, 121, 110, 116, 97, 120, 70, 97, 117, 108, 116, 46, 95, 95, 105, 110, 105, 116, 95, 95]⟩⟩
noncomputable def z59 : Str := ⟨⟨[83, 121, 109, 98, 111, 108, 115]⟩⟩
noncomputable def z60 : Str := ⟨⟨[97, 116, 111, 109]⟩⟩
noncomputable def z61 : Str := ⟨⟨[102, 117, 110, 99, 116, 111, 114]⟩⟩
noncomputable def z62 : Str := ⟨⟨[102, 117, 110, 99]⟩⟩
noncomputable def z63 : Str := ⟨⟨[110, 97, 109, 101]⟩⟩
noncomputable def z64 : Str := ⟨⟨[97, 114, 105, 116, 121]⟩⟩
noncomputable def z65 : Str := ⟨⟨[108, 97, 98, 101, 108]⟩⟩
noncomputable def z66 : Str := ⟨⟨[99, 111, 117, 110, 116]⟩⟩
noncomputable def z67 : Str := ⟨⟨[102, 117, 110, 99, 116, 111, 114, 95, 99, 111, 117, 110, 116]⟩⟩
noncomputable def z68 : Str := ⟨⟨[107, 110, 111, 119, 110]⟩⟩
noncomputable def z69 : Str := ⟨⟨[83, 121, 109, 98, 111, 108, 115, 46, 95, 95, 105, 110, 105, 116, 95, 95]⟩⟩
noncomputable def z70 : Str := ⟨⟨[102, 111, 117, 110, 100]⟩⟩
noncomputable def z71 : Str := ⟨⟨[110, 117, 109, 98, 101, 114]⟩⟩
noncomputable def z72 : Str := ⟨⟨[83, 121, 109, 98, 111, 108, 115, 46, 97, 116, 111, 109]⟩⟩
noncomputable def z73 : Str := ⟨⟨[83, 121, 109, 98, 111, 108, 115, 46, 116, 101, 120, 116]⟩⟩
noncomputable def z74 : Str := ⟨⟨[107, 101, 121]⟩⟩
noncomputable def z75 : Str := ⟨⟨[83, 121, 109, 98, 111, 108, 115, 46, 102, 117, 110, 99, 116, 111, 114]⟩⟩
noncomputable def z76 : Str := ⟨⟨[83, 121, 109, 98, 111, 108, 115, 46, 102, 117, 110, 99]⟩⟩
noncomputable def z77 : Str := ⟨⟨[83, 121, 109, 98, 111, 108, 115, 46, 110, 97, 109, 101]⟩⟩
noncomputable def z78 : Str := ⟨⟨[83, 121, 109, 98, 111, 108, 115, 46, 97, 114, 105, 116, 121]⟩⟩
noncomputable def z79 : Str := ⟨⟨[83, 121, 109, 98, 111, 108, 115, 46, 108, 97, 98, 101, 108]⟩⟩
noncomputable def z80 : Str := ⟨⟨[83, 121, 109, 98, 111, 108, 115, 46, 99, 111, 117, 110, 116]⟩⟩
noncomputable def z81 : Str := ⟨⟨[83, 121, 109, 98, 111, 108, 115, 46, 102, 117, 110, 99, 116, 111, 114, 95, 99, 111, 117, 110, 116]⟩⟩
noncomputable def z82 : Str := ⟨⟨[83, 121, 109, 98, 111, 108, 115, 46, 107, 110, 111, 119, 110]⟩⟩
noncomputable def z83 : Str := ⟨⟨[97, 116, 111, 109, 95, 110, 117, 109, 98, 101, 114, 115]⟩⟩
noncomputable def z84 : Str := ⟨⟨[102, 117, 110, 99, 116, 111, 114, 95, 110, 117, 109, 98, 101, 114, 115]⟩⟩
noncomputable def z85 : Str := ⟨⟨[102, 117, 110, 99, 116, 111, 114, 115]⟩⟩
noncomputable def z86 : Str := ⟨⟨[116, 101, 120, 116, 115]⟩⟩
noncomputable def z87 : Str := ⟨⟨[95, 95, 100, 105, 99, 116, 95, 95]⟩⟩
noncomputable def z88 : Str := ⟨⟨[99, 108, 97, 117, 115, 101, 109, 105, 108, 108, 46, 116, 111, 107, 101, 110, 115]⟩⟩
noncomputable def z89 : Str := ⟨⟨[78, 79, 95, 67, 79, 68, 69]⟩⟩
noncomputable def z90 : Str := ⟨⟨[66, 65, 68, 95, 67, 79, 68, 69]⟩⟩
noncomputable def z91 : Str := ⟨⟨[78, 69, 87, 95, 76, 73, 78, 69]⟩⟩
noncomputable def z92 : Str := ⟨⟨[68, 79, 85, 66, 76, 69, 95, 81, 85, 79, 84, 69]⟩⟩
noncomputable def z93 : Str := ⟨⟨[80, 69, 82, 67, 69, 78, 84]⟩⟩
noncomputable def z94 : Str := ⟨⟨[81, 85, 79, 84, 69]⟩⟩
noncomputable def z95 : Str := ⟨⟨[79, 80, 69, 78]⟩⟩
noncomputable def z96 : Str := ⟨⟨[83, 84, 65, 82]⟩⟩
noncomputable def z97 : Str := ⟨⟨[68, 79, 84]⟩⟩
noncomputable def z98 : Str := ⟨⟨[83, 76, 65, 83, 72]⟩⟩
noncomputable def z99 : Str := ⟨⟨[68, 73, 71, 73, 84, 95, 90, 69, 82, 79]⟩⟩
noncomputable def z100 : Str := ⟨⟨[66, 65, 67, 75, 83, 76, 65, 83, 72]⟩⟩
noncomputable def z101 : Str := ⟨⟨[85, 78, 68, 69, 82, 83, 67, 79, 82, 69]⟩⟩
noncomputable def z102 : Str := ⟨⟨[66, 65, 67, 75, 95, 81, 85, 79, 84, 69]⟩⟩
noncomputable def z103 : Str := ⟨⟨[76, 69, 84, 84, 69, 82, 95, 66]⟩⟩
noncomputable def z104 : Str := ⟨⟨[76, 69, 84, 84, 69, 82, 95, 79]⟩⟩
noncomputable def z105 : Str := ⟨⟨[76, 69, 84, 84, 69, 82, 95, 88]⟩⟩
noncomputable def z106 : Str := ⟨⟨[115, 105, 109, 112, 108, 101, 95, 101, 115, 99, 97, 112, 101]⟩⟩
noncomputable def z107 : Str := ⟨⟨[110, 117, 109, 101, 114, 97, 108, 95, 98, 97, 115, 101]⟩⟩
noncomputable def z108 : Str := ⟨⟨[112, 108, 97, 99, 101]⟩⟩
noncomputable def z109 : Str := ⟨⟨[84, 111, 107, 101, 110, 105, 122, 101, 114]⟩⟩
noncomputable def z110 : Str := ⟨⟨[99, 111, 100, 101, 95, 97, 116]⟩⟩
noncomputable def z111 : Str := ⟨⟨[102, 97, 117, 108, 116]⟩⟩
noncomputable def z112 : Str := ⟨⟨[110, 101, 120, 116]⟩⟩
noncomputable def z113 : Str := ⟨⟨[115, 107, 105, 112, 95, 99, 108, 97, 117, 115, 101]⟩⟩
noncomputable def z114 : Str := ⟨⟨[115, 107, 105, 112, 95, 108, 97, 121, 111, 117, 116]⟩⟩
noncomputable def z115 : Str := ⟨⟨[115, 107, 105, 112, 95, 114, 111, 119]⟩⟩
noncomputable def z116 : Str := ⟨⟨[115, 107, 105, 112, 95, 114, 101, 109, 97, 114, 107]⟩⟩
noncomputable def z117 : Str := ⟨⟨[119, 111, 114, 100]⟩⟩
noncomputable def z118 : Str := ⟨⟨[115, 121, 109, 98, 111, 108]⟩⟩
noncomputable def z119 : Str := ⟨⟨[101, 110, 100, 115, 95, 97, 116]⟩⟩
noncomputable def z120 : Str := ⟨⟨[110, 117, 109, 101, 114, 97, 108]⟩⟩
noncomputable def z121 : Str := ⟨⟨[99, 104, 97, 114, 97, 99, 116, 101, 114]⟩⟩
noncomputable def z122 : Str := ⟨⟨[101, 115, 99, 97, 112, 101]⟩⟩
noncomputable def z123 : Str := ⟨⟨[97, 98, 97, 110, 100, 111, 110]⟩⟩
noncomputable def z124 : Str := ⟨⟨[99, 111, 100, 101, 115]⟩⟩
noncomputable def z125 : Str := ⟨⟨[84, 111, 107, 101, 110, 105, 122, 101, 114, 46, 95, 95, 105, 110, 105, 116, 95, 95]⟩⟩
noncomputable def z126 : Str := ⟨⟨[105, 110, 100, 101, 120]⟩⟩
noncomputable def z127 : Str := ⟨⟨[84, 111, 107, 101, 110, 105, 122, 101, 114, 46, 99, 111, 100, 101, 95, 97, 116]⟩⟩
noncomputable def z128 : Str := ⟨⟨[84, 111, 107, 101, 110, 105, 122, 101, 114, 46, 112, 108, 97, 99, 101]⟩⟩
noncomputable def z129 : Str := ⟨⟨[84, 111, 107, 101, 110, 105, 122, 101, 114, 46, 102, 97, 117, 108, 116]⟩⟩
noncomputable def z130 : Str := ⟨⟨[98, 101, 103, 117, 110]⟩⟩
noncomputable def z131 : Str := ⟨⟨[84, 111, 107, 101, 110, 105, 122, 101, 114, 46, 110, 101, 120, 116]⟩⟩
noncomputable def z132 : Str := ⟨⟨[84, 111, 107, 101, 110, 105, 122, 101, 114, 46, 115, 107, 105, 112, 95, 99, 108, 97, 117, 115, 101]⟩⟩
noncomputable def z133 : Str := ⟨⟨[84, 111, 107, 101, 110, 105, 122, 101, 114, 46, 115, 107, 105, 112, 95, 108, 97, 121, 111, 117, 116]⟩⟩
noncomputable def z134 : Str := ⟨⟨[84, 111, 107, 101, 110, 105, 122, 101, 114, 46, 115, 107, 105, 112, 95, 114, 111, 119]⟩⟩
noncomputable def z135 : Str := ⟨⟨[84, 111, 107, 101, 110, 105, 122, 101, 114, 46, 115, 107, 105, 112, 95, 114, 101, 109, 97, 114, 107]⟩⟩
noncomputable def z136 : Str := ⟨⟨[101, 110, 100]⟩⟩
noncomputable def z137 : Str := ⟨⟨[84, 111, 107, 101, 110, 105, 122, 101, 114, 46, 119, 111, 114, 100]⟩⟩
noncomputable def z138 : Str := ⟨⟨[84, 111, 107, 101, 110, 105, 122, 101, 114, 46, 115, 121, 109, 98, 111, 108]⟩⟩
noncomputable def z139 : Str := ⟨⟨[84, 111, 107, 101, 110, 105, 122, 101, 114, 46, 101, 110, 100, 115, 95, 97, 116]⟩⟩
noncomputable def z140 : Str := ⟨⟨[109, 97, 114, 107]⟩⟩
noncomputable def z141 : Str := ⟨⟨[98, 97, 115, 101]⟩⟩
noncomputable def z142 : Str := ⟨⟨[100, 105, 103, 105, 116]⟩⟩
noncomputable def z143 : Str := ⟨⟨[118, 97, 108, 117, 101]⟩⟩
noncomputable def z144 : Str := ⟨⟨[84, 111, 107, 101, 110, 105, 122, 101, 114, 46, 110, 117, 109, 101, 114, 97, 108]⟩⟩
noncomputable def z145 : Str := ⟨⟨[84, 111, 107, 101, 110, 105, 122, 101, 114, 46, 100, 105, 103, 105, 116, 115]⟩⟩
noncomputable def z146 : Str := ⟨⟨[84, 111, 107, 101, 110, 105, 122, 101, 114, 46, 99, 104, 97, 114, 97, 99, 116, 101, 114]⟩⟩
noncomputable def z147 : Str := ⟨⟨[113, 117, 111, 116, 101]⟩⟩
noncomputable def z148 : Str := ⟨⟨[84, 111, 107, 101, 110, 105, 122, 101, 114, 46, 113, 117, 111, 116, 101, 100]⟩⟩
noncomputable def z149 : Str := ⟨⟨[115, 105, 109, 112, 108, 101]⟩⟩
noncomputable def z150 : Str := ⟨⟨[84, 111, 107, 101, 110, 105, 122, 101, 114, 46, 101, 115, 99, 97, 112, 101]⟩⟩
noncomputable def z151 : Str := ⟨⟨[102, 111, 108, 108, 111, 119, 101, 114]⟩⟩
noncomputable def z152 : Str := ⟨⟨[84, 111, 107, 101, 110, 105, 122, 101, 114, 46, 97, 98, 97, 110, 100, 111, 110]⟩⟩
noncomputable def z153 : Str := ⟨⟨[111, 114, 105, 103, 105, 110]⟩⟩
noncomputable def z154 : Str := ⟨⟨[108, 97, 119, 95, 110, 111, 48, 49, 55, 51, 95, 48, 49]⟩⟩
noncomputable def z155 : Str := ⟨⟨[95, 108, 97, 119, 95, 112, 111, 111, 108]⟩⟩
noncomputable def z156 : Str := ⟨⟨[95, 108, 97, 119, 95, 112, 105, 99, 107]⟩⟩
noncomputable def z157 : Str := ⟨⟨[95, 108, 97, 119, 95, 110, 97, 109, 101]⟩⟩
noncomputable def z158 : Str := ⟨⟨[95, 108, 97, 119, 95, 98, 97, 114, 101]⟩⟩
noncomputable def z159 : Str := ⟨⟨[108, 97, 119]⟩⟩
noncomputable def z160 : Str := ⟨⟨[115, 99, 114, 105, 112, 116]⟩⟩
noncomputable def z161 : Str := ⟨⟨[102, 105, 103, 117, 114, 101, 115]⟩⟩
noncomputable def z162 : Str := ⟨⟨[109, 105, 120]⟩⟩
noncomputable def z163 : Str := ⟨⟨[99, 101, 108, 108]⟩⟩
noncomputable def z164 : Str := ⟨⟨[119, 104, 111, 108, 101]⟩⟩
noncomputable def z165 : Str := ⟨⟨[114, 101, 115, 116]⟩⟩
noncomputable def z166 : Str := ⟨⟨[115, 116, 101, 112]⟩⟩
noncomputable def z167 : Str := ⟨⟨[112, 111, 111, 108]⟩⟩
noncomputable def z168 : Str := ⟨⟨[98, 111, 117, 110, 100]⟩⟩
noncomputable def z169 : Str := ⟨⟨[102, 105, 103, 117, 114, 101]⟩⟩
noncomputable def z170 : Str := ⟨⟨[119, 97, 121]⟩⟩
noncomputable def y0 (P : Params) : Obj := ⟨(.type "tuple"), none, (.seq ⟨[]⟩ 0), ⟨[]⟩⟩
noncomputable def y1 (P : Params) : Obj := ⟨.none, none, (.fields ⟨[]⟩), ⟨[]⟩⟩
noncomputable def y2 (P : Params) : Obj := ⟨(.type "code"), none, (.fields ⟨[(.str z0 182), (.str z0 183), (.str z1 184), (.int 1 0), (.int 0 0), (.int 0 0), (.int 0 0), (.int 0 0), (.ref 11), (.bool Bool.false), (.int 181 0), (.ref 12), .none, .none, .none, .none, (.int 185 0), (.int 1 0), (.str z1 186)]⟩), ⟨[]⟩⟩
noncomputable def y3 (P : Params) : Obj := ⟨(.type "frame"), none, .plain, ⟨[(some (.ref 13)), (some (.ref 3)), (some (.ref 3)), none, (some (.str z2 164)), none, (some (.ref 0))]⟩⟩
noncomputable def hA (P : Params) : Heap := ⟨⟨[boot_o_0 P, boot_o_1 P, boot_o_2 P, boot_o_3 P, boot_o_4 P, boot_o_5 P, boot_o_6 P, boot_o_7 P, boot_o_8 P, boot_o_9 P, boot_o_10 P, y0 P, y1 P, y2 P, y3 P]⟩, (Life.mk [] [] [] 0 [] [] Bool.false ⟨[]⟩ [] 0 Bool.false Bool.false Bool.false 0 [2000, 10, 10] Bool.false 0 Bool.true [] [] 0 Bool.false)⟩
noncomputable def lifeA : Life := (Life.mk [] [] [] 0 [] [] Bool.false ⟨[]⟩ [] 0 Bool.false Bool.false Bool.false 0 [2000, 10, 10] Bool.false 0 Bool.true [] [] 0 Bool.false)
noncomputable def drawnA : Drawn := (Drawn.mk 0 0 0 0)
noncomputable def env0 : Env := { scope := pw.main.scope, locals := mainNs, globals := mainNs, cells := [], code := (.ref 13), frame := some 14 }
noncomputable def posF : Pos := (Pos.mk 0 0 0 0)
noncomputable def posA : Pos := (Pos.mk 0 0 0 0)
noncomputable def posB : Pos := (Pos.mk 0 0 0 0)
noncomputable def t0 (P : Params) : BT := (.node (boot_o_0 P) (.node (boot_o_1 P) (.node (boot_o_3 P) (.node (boot_o_7 P) .nil .nil) (.node (y0 P) .nil .nil)) (.node (boot_o_5 P) (.node (boot_o_9 P) .nil .nil) (.node (y2 P) .nil .nil))) (.node (boot_o_2 P) (.node (boot_o_4 P) (.node (boot_o_8 P) .nil .nil) (.node (y1 P) .nil .nil)) (.node (boot_o_6 P) (.node (boot_o_10 P) .nil .nil) (.node (y3 P) .nil .nil))))
noncomputable def y4 (P : Params) : Obj := ⟨(.type "dict"), none, (.dict ⟨[⟨(PyData.keyHash P z3), (.str z3 165), (.str z4 194)⟩, ⟨(PyData.keyHash P z5), (.str z5 166), .none⟩, ⟨(PyData.keyHash P z6), (.str z6 167), .none⟩, ⟨(PyData.keyHash P z7), (.str z7 168), (.builtin "__main__.__loader__#opaque")⟩, ⟨(PyData.keyHash P z8), (.str z8 169), .none⟩, ⟨(PyData.keyHash P z9), (.str z9 170), (.ref 6)⟩, ⟨(PyData.keyHash P z10), (.str z10 171), (.ref 4)⟩, ⟨(PyData.keyHash P z11), (.str z11 173), (.str z1 172)⟩, ⟨(PyData.keyHash P z12), (.str z12 174), .none⟩, ⟨(PyData.keyHash P z13), (.str z13 193), (.ref 21)⟩, ⟨(PyData.keyHash P z14), (.str z14 197), (.int 1114111 196)⟩, ⟨(PyData.keyHash P z15), (.str z15 204), (.ref 28)⟩, ⟨(PyData.keyHash P z16), (.str z16 211), (.ref 35)⟩, ⟨(PyData.keyHash P z17), (.str z17 218), (.ref 42)⟩, ⟨(PyData.keyHash P z18), (.str z18 225), (.ref 49)⟩, ⟨(PyData.keyHash P z19), (.str z19 232), (.ref 56)⟩, ⟨(PyData.keyHash P z20), (.str z20 239), (.ref 63)⟩, ⟨(PyData.keyHash P z21), (.str z21 246), (.ref 70)⟩, ⟨(PyData.keyHash P z22), (.str z22 253), (.ref 77)⟩, ⟨(PyData.keyHash P z23), (.str z23 259), (.ref 82)⟩, ⟨(PyData.keyHash P z24), (.str z24 267), (.ref 89)⟩, ⟨(PyData.keyHash P z25), (.str z25 275), (.ref 96)⟩]⟩ 22), ⟨[]⟩⟩
noncomputable def y5 (P : Params) : Obj := ⟨.none, none, (.fields ⟨[(.int 1 0), (.int 0 0), (.ref 20), (.int 6 0), (.int 0 0), (.ref 27), (.int 8 0), (.int 0 0), (.ref 34), (.int 10 0), (.int 0 0), (.ref 41), (.int 12 0), (.int 0 0), (.ref 48), (.int 14 0), (.int 0 0), (.ref 55), (.int 16 0), (.int 0 0), (.ref 62), (.int 18 0), (.int 0 0), (.ref 69), (.int 20 0), (.int 0 0), (.ref 76), (.int 28 0), (.int 0 0), (.ref 81), (.int 30 0), (.int 0 0), (.ref 88), (.int 37 0), (.int 0 0), (.ref 95)]⟩), ⟨[]⟩⟩
noncomputable def y6 (P : Params) : Obj := ⟨(.type "tuple"), none, (.seq ⟨[]⟩ 0), ⟨[]⟩⟩
noncomputable def y7 (P : Params) : Obj := ⟨.none, none, (.fields ⟨[]⟩), ⟨[]⟩⟩
noncomputable def y8 (P : Params) : Obj := ⟨(.type "tuple"), none, (.seq ⟨[(.str z26 190)]⟩ 0), ⟨[]⟩⟩
noncomputable def y9 (P : Params) : Obj := ⟨(.type "tuple"), none, (.seq ⟨[]⟩ 0), ⟨[]⟩⟩
noncomputable def y10 (P : Params) : Obj := ⟨.none, none, (.func (FuncData.mk z13 z13 (argsOf (stAt 0)) (FuncBody.stmts (bodyOf (stAt 0))) (scopeOf (stAt 0)) 0 [] .none .none .none .none none .none .none 0)), ⟨[]⟩⟩
noncomputable def y11 (P : Params) : Obj := ⟨(.type "code"), none, (.fields ⟨[(.str z13 187), (.str z13 188), (.str z1 189), (.int 1 0), (.int 1 0), (.int 0 0), (.int 0 0), (.int 3 0), (.ref 15), (.bool Bool.true), (.int 181 0), (.ref 16), .none, (.ref 17), (.ref 18), (.ref 19), (.int 191 0), (.int 1 0), (.str z1 192)]⟩), ⟨[]⟩⟩
noncomputable def y12 (P : Params) : Obj := ⟨(.type "function"), none, (.func (FuncData.mk z13 z13 (argsOf (stAt 0)) (FuncBody.stmts (bodyOf (stAt 0))) (scopeOf (stAt 0)) 3 [] .none .none .none (.str z2 164) none (.ref 20) .none 0)), ⟨[]⟩⟩
noncomputable def y13 (P : Params) : Obj := ⟨(.type "tuple"), none, (.seq ⟨[]⟩ 0), ⟨[]⟩⟩
noncomputable def y14 (P : Params) : Obj := ⟨.none, none, (.fields ⟨[]⟩), ⟨[]⟩⟩
noncomputable def y15 (P : Params) : Obj := ⟨(.type "tuple"), none, (.seq ⟨[(.str z27 201)]⟩ 0), ⟨[]⟩⟩
noncomputable def y16 (P : Params) : Obj := ⟨(.type "tuple"), none, (.seq ⟨[]⟩ 0), ⟨[]⟩⟩
noncomputable def y17 (P : Params) : Obj := ⟨.none, none, (.func (FuncData.mk z15 z15 (argsOf (stAt 3)) (FuncBody.stmts (bodyOf (stAt 3))) (scopeOf (stAt 3)) 0 [] .none .none .none .none none .none .none 0)), ⟨[]⟩⟩
noncomputable def y18 (P : Params) : Obj := ⟨(.type "code"), none, (.fields ⟨[(.str z15 198), (.str z15 199), (.str z1 200), (.int 6 0), (.int 1 0), (.int 0 0), (.int 0 0), (.int 3 0), (.ref 22), (.bool Bool.true), (.int 181 0), (.ref 23), .none, (.ref 24), (.ref 25), (.ref 26), (.int 202 0), (.int 6 0), (.str z1 203)]⟩), ⟨[]⟩⟩
noncomputable def y19 (P : Params) : Obj := ⟨(.type "function"), none, (.func (FuncData.mk z15 z15 (argsOf (stAt 3)) (FuncBody.stmts (bodyOf (stAt 3))) (scopeOf (stAt 3)) 3 [] .none .none .none (.str z4 194) none (.ref 27) .none 0)), ⟨[]⟩⟩
noncomputable def y20 (P : Params) : Obj := ⟨(.type "tuple"), none, (.seq ⟨[]⟩ 0), ⟨[]⟩⟩
noncomputable def y21 (P : Params) : Obj := ⟨.none, none, (.fields ⟨[]⟩), ⟨[]⟩⟩
noncomputable def y22 (P : Params) : Obj := ⟨(.type "tuple"), none, (.seq ⟨[(.str z27 208)]⟩ 0), ⟨[]⟩⟩
noncomputable def y23 (P : Params) : Obj := ⟨(.type "tuple"), none, (.seq ⟨[]⟩ 0), ⟨[]⟩⟩
noncomputable def y24 (P : Params) : Obj := ⟨.none, none, (.func (FuncData.mk z16 z16 (argsOf (stAt 4)) (FuncBody.stmts (bodyOf (stAt 4))) (scopeOf (stAt 3)) 0 [] .none .none .none .none none .none .none 0)), ⟨[]⟩⟩
noncomputable def y25 (P : Params) : Obj := ⟨(.type "code"), none, (.fields ⟨[(.str z16 205), (.str z16 206), (.str z1 207), (.int 8 0), (.int 1 0), (.int 0 0), (.int 0 0), (.int 3 0), (.ref 29), (.bool Bool.true), (.int 181 0), (.ref 30), .none, (.ref 31), (.ref 32), (.ref 33), (.int 209 0), (.int 8 0), (.str z1 210)]⟩), ⟨[]⟩⟩
noncomputable def y26 (P : Params) : Obj := ⟨(.type "function"), none, (.func (FuncData.mk z16 z16 (argsOf (stAt 4)) (FuncBody.stmts (bodyOf (stAt 4))) (scopeOf (stAt 3)) 3 [] .none .none .none (.str z4 194) none (.ref 34) .none 0)), ⟨[]⟩⟩
noncomputable def y27 (P : Params) : Obj := ⟨(.type "tuple"), none, (.seq ⟨[]⟩ 0), ⟨[]⟩⟩
noncomputable def y28 (P : Params) : Obj := ⟨.none, none, (.fields ⟨[]⟩), ⟨[]⟩⟩
noncomputable def y29 (P : Params) : Obj := ⟨(.type "tuple"), none, (.seq ⟨[(.str z27 215)]⟩ 0), ⟨[]⟩⟩
noncomputable def y30 (P : Params) : Obj := ⟨(.type "tuple"), none, (.seq ⟨[]⟩ 0), ⟨[]⟩⟩
noncomputable def y31 (P : Params) : Obj := ⟨.none, none, (.func (FuncData.mk z17 z17 (argsOf (stAt 5)) (FuncBody.stmts (bodyOf (stAt 5))) (scopeOf (stAt 3)) 0 [] .none .none .none .none none .none .none 0)), ⟨[]⟩⟩
noncomputable def y32 (P : Params) : Obj := ⟨(.type "code"), none, (.fields ⟨[(.str z17 212), (.str z17 213), (.str z1 214), (.int 10 0), (.int 1 0), (.int 0 0), (.int 0 0), (.int 3 0), (.ref 36), (.bool Bool.true), (.int 181 0), (.ref 37), .none, (.ref 38), (.ref 39), (.ref 40), (.int 216 0), (.int 10 0), (.str z1 217)]⟩), ⟨[]⟩⟩
noncomputable def y33 (P : Params) : Obj := ⟨(.type "function"), none, (.func (FuncData.mk z17 z17 (argsOf (stAt 5)) (FuncBody.stmts (bodyOf (stAt 5))) (scopeOf (stAt 3)) 3 [] .none .none .none (.str z4 194) none (.ref 41) .none 0)), ⟨[]⟩⟩
noncomputable def y34 (P : Params) : Obj := ⟨(.type "tuple"), none, (.seq ⟨[]⟩ 0), ⟨[]⟩⟩
noncomputable def y35 (P : Params) : Obj := ⟨.none, none, (.fields ⟨[]⟩), ⟨[]⟩⟩
noncomputable def y36 (P : Params) : Obj := ⟨(.type "tuple"), none, (.seq ⟨[(.str z27 222)]⟩ 0), ⟨[]⟩⟩
noncomputable def y37 (P : Params) : Obj := ⟨(.type "tuple"), none, (.seq ⟨[]⟩ 0), ⟨[]⟩⟩
noncomputable def y38 (P : Params) : Obj := ⟨.none, none, (.func (FuncData.mk z18 z18 (argsOf (stAt 6)) (FuncBody.stmts (bodyOf (stAt 6))) (scopeOf (stAt 3)) 0 [] .none .none .none .none none .none .none 0)), ⟨[]⟩⟩
noncomputable def y39 (P : Params) : Obj := ⟨(.type "code"), none, (.fields ⟨[(.str z18 219), (.str z18 220), (.str z1 221), (.int 12 0), (.int 1 0), (.int 0 0), (.int 0 0), (.int 3 0), (.ref 43), (.bool Bool.true), (.int 181 0), (.ref 44), .none, (.ref 45), (.ref 46), (.ref 47), (.int 223 0), (.int 12 0), (.str z1 224)]⟩), ⟨[]⟩⟩
noncomputable def y40 (P : Params) : Obj := ⟨(.type "function"), none, (.func (FuncData.mk z18 z18 (argsOf (stAt 6)) (FuncBody.stmts (bodyOf (stAt 6))) (scopeOf (stAt 3)) 3 [] .none .none .none (.str z4 194) none (.ref 48) .none 0)), ⟨[]⟩⟩
noncomputable def y41 (P : Params) : Obj := ⟨(.type "tuple"), none, (.seq ⟨[]⟩ 0), ⟨[]⟩⟩
noncomputable def y42 (P : Params) : Obj := ⟨.none, none, (.fields ⟨[]⟩), ⟨[]⟩⟩
noncomputable def y43 (P : Params) : Obj := ⟨(.type "tuple"), none, (.seq ⟨[(.str z27 229)]⟩ 0), ⟨[]⟩⟩
noncomputable def y44 (P : Params) : Obj := ⟨(.type "tuple"), none, (.seq ⟨[]⟩ 0), ⟨[]⟩⟩
noncomputable def y45 (P : Params) : Obj := ⟨.none, none, (.func (FuncData.mk z19 z19 (argsOf (stAt 7)) (FuncBody.stmts (bodyOf (stAt 7))) (scopeOf (stAt 7)) 0 [] .none .none .none .none none .none .none 0)), ⟨[]⟩⟩
noncomputable def y46 (P : Params) : Obj := ⟨(.type "code"), none, (.fields ⟨[(.str z19 226), (.str z19 227), (.str z1 228), (.int 14 0), (.int 1 0), (.int 0 0), (.int 0 0), (.int 3 0), (.ref 50), (.bool Bool.true), (.int 181 0), (.ref 51), .none, (.ref 52), (.ref 53), (.ref 54), (.int 230 0), (.int 14 0), (.str z1 231)]⟩), ⟨[]⟩⟩
noncomputable def y47 (P : Params) : Obj := ⟨(.type "function"), none, (.func (FuncData.mk z19 z19 (argsOf (stAt 7)) (FuncBody.stmts (bodyOf (stAt 7))) (scopeOf (stAt 7)) 3 [] .none .none .none (.str z4 194) none (.ref 55) .none 0)), ⟨[]⟩⟩
noncomputable def y48 (P : Params) : Obj := ⟨(.type "tuple"), none, (.seq ⟨[]⟩ 0), ⟨[]⟩⟩
noncomputable def y49 (P : Params) : Obj := ⟨.none, none, (.fields ⟨[]⟩), ⟨[]⟩⟩
noncomputable def y50 (P : Params) : Obj := ⟨(.type "tuple"), none, (.seq ⟨[(.str z27 236)]⟩ 0), ⟨[]⟩⟩
noncomputable def y51 (P : Params) : Obj := ⟨(.type "tuple"), none, (.seq ⟨[]⟩ 0), ⟨[]⟩⟩
noncomputable def y52 (P : Params) : Obj := ⟨.none, none, (.func (FuncData.mk z20 z20 (argsOf (stAt 8)) (FuncBody.stmts (bodyOf (stAt 8))) (scopeOf (stAt 8)) 0 [] .none .none .none .none none .none .none 0)), ⟨[]⟩⟩
noncomputable def y53 (P : Params) : Obj := ⟨(.type "code"), none, (.fields ⟨[(.str z20 233), (.str z20 234), (.str z1 235), (.int 16 0), (.int 1 0), (.int 0 0), (.int 0 0), (.int 3 0), (.ref 57), (.bool Bool.true), (.int 181 0), (.ref 58), .none, (.ref 59), (.ref 60), (.ref 61), (.int 237 0), (.int 16 0), (.str z1 238)]⟩), ⟨[]⟩⟩
noncomputable def y54 (P : Params) : Obj := ⟨(.type "function"), none, (.func (FuncData.mk z20 z20 (argsOf (stAt 8)) (FuncBody.stmts (bodyOf (stAt 8))) (scopeOf (stAt 8)) 3 [] .none .none .none (.str z4 194) none (.ref 62) .none 0)), ⟨[]⟩⟩
noncomputable def y55 (P : Params) : Obj := ⟨(.type "tuple"), none, (.seq ⟨[]⟩ 0), ⟨[]⟩⟩
noncomputable def y56 (P : Params) : Obj := ⟨.none, none, (.fields ⟨[]⟩), ⟨[]⟩⟩
noncomputable def y57 (P : Params) : Obj := ⟨(.type "tuple"), none, (.seq ⟨[(.str z27 243)]⟩ 0), ⟨[]⟩⟩
noncomputable def y58 (P : Params) : Obj := ⟨(.type "tuple"), none, (.seq ⟨[]⟩ 0), ⟨[]⟩⟩
noncomputable def y59 (P : Params) : Obj := ⟨.none, none, (.func (FuncData.mk z21 z21 (argsOf (stAt 9)) (FuncBody.stmts (bodyOf (stAt 9))) (scopeOf (stAt 9)) 0 [] .none .none .none .none none .none .none 0)), ⟨[]⟩⟩
noncomputable def y60 (P : Params) : Obj := ⟨(.type "code"), none, (.fields ⟨[(.str z21 240), (.str z21 241), (.str z1 242), (.int 18 0), (.int 1 0), (.int 0 0), (.int 0 0), (.int 3 0), (.ref 64), (.bool Bool.true), (.int 181 0), (.ref 65), .none, (.ref 66), (.ref 67), (.ref 68), (.int 244 0), (.int 18 0), (.str z1 245)]⟩), ⟨[]⟩⟩
noncomputable def y61 (P : Params) : Obj := ⟨(.type "function"), none, (.func (FuncData.mk z21 z21 (argsOf (stAt 9)) (FuncBody.stmts (bodyOf (stAt 9))) (scopeOf (stAt 9)) 3 [] .none .none .none (.str z4 194) none (.ref 69) .none 0)), ⟨[]⟩⟩
noncomputable def y62 (P : Params) : Obj := ⟨(.type "tuple"), none, (.seq ⟨[]⟩ 0), ⟨[]⟩⟩
noncomputable def y63 (P : Params) : Obj := ⟨.none, none, (.fields ⟨[]⟩), ⟨[]⟩⟩
noncomputable def y64 (P : Params) : Obj := ⟨(.type "tuple"), none, (.seq ⟨[(.str z27 250)]⟩ 0), ⟨[]⟩⟩
noncomputable def y65 (P : Params) : Obj := ⟨(.type "tuple"), none, (.seq ⟨[]⟩ 0), ⟨[]⟩⟩
noncomputable def y66 (P : Params) : Obj := ⟨.none, none, (.func (FuncData.mk z22 z22 (argsOf (stAt 10)) (FuncBody.stmts (bodyOf (stAt 10))) (scopeOf (stAt 10)) 0 [] .none .none .none .none none .none .none 0)), ⟨[]⟩⟩
noncomputable def y67 (P : Params) : Obj := ⟨(.type "code"), none, (.fields ⟨[(.str z22 247), (.str z22 248), (.str z1 249), (.int 20 0), (.int 1 0), (.int 0 0), (.int 0 0), (.int 3 0), (.ref 71), (.bool Bool.true), (.int 181 0), (.ref 72), .none, (.ref 73), (.ref 74), (.ref 75), (.int 251 0), (.int 20 0), (.str z1 252)]⟩), ⟨[]⟩⟩
noncomputable def y68 (P : Params) : Obj := ⟨(.type "function"), none, (.func (FuncData.mk z22 z22 (argsOf (stAt 10)) (FuncBody.stmts (bodyOf (stAt 10))) (scopeOf (stAt 10)) 3 [] .none .none .none (.str z4 194) none (.ref 76) .none 0)), ⟨[]⟩⟩
noncomputable def y69 (P : Params) : Obj := ⟨(.type "tuple"), none, (.seq ⟨[]⟩ 0), ⟨[]⟩⟩
noncomputable def y70 (P : Params) : Obj := ⟨.none, none, (.fields ⟨[]⟩), ⟨[]⟩⟩
noncomputable def y71 (P : Params) : Obj := ⟨.none, none, (.func (FuncData.mk z23 z23 (argsOf (stAt 11)) (FuncBody.stmts (bodyOf (stAt 11))) (scopeOf (stAt 11)) 0 [] .none .none .none .none none .none .none 0)), ⟨[]⟩⟩
noncomputable def y72 (P : Params) : Obj := ⟨(.type "code"), none, (.fields ⟨[(.str z23 254), (.str z23 255), (.str z1 256), (.int 28 0), (.int 1 0), (.int 0 0), (.int 0 0), (.int 3 0), (.ref 78), (.bool Bool.true), (.int 181 0), (.ref 79), .none, .none, .none, (.ref 80), (.int 257 0), (.int 28 0), (.str z1 258)]⟩), ⟨[]⟩⟩
noncomputable def y73 (P : Params) : Obj := ⟨(.type "function"), none, (.func (FuncData.mk z23 z23 (argsOf (stAt 11)) (FuncBody.stmts (bodyOf (stAt 11))) (scopeOf (stAt 11)) 3 [] .none .none .none (.str z4 194) none (.ref 81) .none 0)), ⟨[]⟩⟩
noncomputable def y74 (P : Params) : Obj := ⟨(.type "tuple"), none, (.seq ⟨[]⟩ 0), ⟨[]⟩⟩
noncomputable def y75 (P : Params) : Obj := ⟨.none, none, (.fields ⟨[]⟩), ⟨[]⟩⟩
noncomputable def y76 (P : Params) : Obj := ⟨(.type "tuple"), none, (.seq ⟨[(.str z28 263), (.str z29 264)]⟩ 0), ⟨[]⟩⟩
noncomputable def y77 (P : Params) : Obj := ⟨(.type "tuple"), none, (.seq ⟨[]⟩ 0), ⟨[]⟩⟩
noncomputable def y78 (P : Params) : Obj := ⟨.none, none, (.func (FuncData.mk z24 z24 (argsOf (stAt 12)) (FuncBody.stmts (bodyOf (stAt 12))) (scopeOf (stAt 12)) 0 [] .none .none .none .none none .none .none 0)), ⟨[]⟩⟩
noncomputable def y79 (P : Params) : Obj := ⟨(.type "code"), none, (.fields ⟨[(.str z24 260), (.str z24 261), (.str z1 262), (.int 30 0), (.int 1 0), (.int 0 0), (.int 0 0), (.int 3 0), (.ref 83), (.bool Bool.true), (.int 181 0), (.ref 84), .none, (.ref 85), (.ref 86), (.ref 87), (.int 265 0), (.int 30 0), (.str z1 266)]⟩), ⟨[]⟩⟩
noncomputable def y80 (P : Params) : Obj := ⟨(.type "function"), none, (.func (FuncData.mk z24 z24 (argsOf (stAt 12)) (FuncBody.stmts (bodyOf (stAt 12))) (scopeOf (stAt 12)) 3 [] .none .none .none (.str z4 194) none (.ref 88) .none 0)), ⟨[]⟩⟩
noncomputable def y81 (P : Params) : Obj := ⟨(.type "tuple"), none, (.seq ⟨[]⟩ 0), ⟨[]⟩⟩
noncomputable def y82 (P : Params) : Obj := ⟨.none, none, (.fields ⟨[]⟩), ⟨[]⟩⟩
noncomputable def y83 (P : Params) : Obj := ⟨(.type "tuple"), none, (.seq ⟨[(.str z28 271), (.str z29 272)]⟩ 0), ⟨[]⟩⟩
noncomputable def y84 (P : Params) : Obj := ⟨(.type "tuple"), none, (.seq ⟨[]⟩ 0), ⟨[]⟩⟩
noncomputable def y85 (P : Params) : Obj := ⟨.none, none, (.func (FuncData.mk z25 z25 (argsOf (stAt 13)) (FuncBody.stmts (bodyOf (stAt 13))) (scopeOf (stAt 13)) 0 [] .none .none .none .none none .none .none 0)), ⟨[]⟩⟩
noncomputable def y86 (P : Params) : Obj := ⟨(.type "code"), none, (.fields ⟨[(.str z25 268), (.str z25 269), (.str z1 270), (.int 37 0), (.int 1 0), (.int 0 0), (.int 0 0), (.int 3 0), (.ref 90), (.bool Bool.true), (.int 181 0), (.ref 91), .none, (.ref 92), (.ref 93), (.ref 94), (.int 273 0), (.int 37 0), (.str z1 274)]⟩), ⟨[]⟩⟩
noncomputable def y87 (P : Params) : Obj := ⟨(.type "function"), none, (.func (FuncData.mk z25 z25 (argsOf (stAt 13)) (FuncBody.stmts (bodyOf (stAt 13))) (scopeOf (stAt 13)) 3 [] .none .none .none (.str z4 194) none (.ref 95) .none 0)), ⟨[]⟩⟩
noncomputable def t1 (P : Params) : BT := (.node (boot_o_0 P) (.node (boot_o_1 P) (.node (y4 P) (.node (boot_o_7 P) (.node (y6 P) (.node (y22 P) (.node (y54 P) .nil .nil) (.node (y86 P) .nil .nil)) (.node (y38 P) (.node (y70 P) .nil .nil) .nil)) (.node (y14 P) (.node (y30 P) (.node (y62 P) .nil .nil) .nil) (.node (y46 P) (.node (y78 P) .nil .nil) .nil))) (.node (y0 P) (.node (y10 P) (.node (y26 P) (.node (y58 P) .nil .nil) .nil) (.node (y42 P) (.node (y74 P) .nil .nil) .nil)) (.node (y18 P) (.node (y34 P) (.node (y66 P) .nil .nil) .nil) (.node (y50 P) (.node (y82 P) .nil .nil) .nil)))) (.node (boot_o_5 P) (.node (boot_o_9 P) (.node (y8 P) (.node (y24 P) (.node (y56 P) .nil .nil) .nil) (.node (y40 P) (.node (y72 P) .nil .nil) .nil)) (.node (y16 P) (.node (y32 P) (.node (y64 P) .nil .nil) .nil) (.node (y48 P) (.node (y80 P) .nil .nil) .nil))) (.node (y2 P) (.node (y12 P) (.node (y28 P) (.node (y60 P) .nil .nil) .nil) (.node (y44 P) (.node (y76 P) .nil .nil) .nil)) (.node (y20 P) (.node (y36 P) (.node (y68 P) .nil .nil) .nil) (.node (y52 P) (.node (y84 P) .nil .nil) .nil))))) (.node (boot_o_2 P) (.node (boot_o_4 P) (.node (boot_o_8 P) (.node (y7 P) (.node (y23 P) (.node (y55 P) .nil .nil) (.node (y87 P) .nil .nil)) (.node (y39 P) (.node (y71 P) .nil .nil) .nil)) (.node (y15 P) (.node (y31 P) (.node (y63 P) .nil .nil) .nil) (.node (y47 P) (.node (y79 P) .nil .nil) .nil))) (.node (y5 P) (.node (y11 P) (.node (y27 P) (.node (y59 P) .nil .nil) .nil) (.node (y43 P) (.node (y75 P) .nil .nil) .nil)) (.node (y19 P) (.node (y35 P) (.node (y67 P) .nil .nil) .nil) (.node (y51 P) (.node (y83 P) .nil .nil) .nil)))) (.node (boot_o_6 P) (.node (boot_o_10 P) (.node (y9 P) (.node (y25 P) (.node (y57 P) .nil .nil) .nil) (.node (y41 P) (.node (y73 P) .nil .nil) .nil)) (.node (y17 P) (.node (y33 P) (.node (y65 P) .nil .nil) .nil) (.node (y49 P) (.node (y81 P) .nil .nil) .nil))) (.node (y3 P) (.node (y13 P) (.node (y29 P) (.node (y61 P) .nil .nil) .nil) (.node (y45 P) (.node (y77 P) .nil .nil) .nil)) (.node (y21 P) (.node (y37 P) (.node (y69 P) .nil .nil) .nil) (.node (y53 P) (.node (y85 P) .nil .nil) .nil))))))
noncomputable def pos1 : Pos := (Pos.mk 37 0 43 15)
noncomputable def y88 (P : Params) : Obj := ⟨.none, none, (.dict ⟨[⟨(PyData.keyHash P z30), (.str z30 330), (.int 135 0)⟩, ⟨(PyData.keyHash P z31), (.str z31 331), (.int 1 0)⟩]⟩ 2), ⟨[]⟩⟩
noncomputable def y89 (P : Params) : Obj := ⟨(.type "dict"), none, (.dict ⟨[⟨(PyData.keyHash P z3), (.str z3 165), (.str z32 312)⟩, ⟨(PyData.keyHash P z5), (.str z5 166), .none⟩, ⟨(PyData.keyHash P z6), (.str z6 167), .none⟩, ⟨(PyData.keyHash P z7), (.str z7 168), (.builtin "__main__.__loader__#opaque")⟩, ⟨(PyData.keyHash P z8), (.str z8 169), .none⟩, ⟨(PyData.keyHash P z9), (.str z9 170), (.ref 6)⟩, ⟨(PyData.keyHash P z10), (.str z10 171), (.ref 4)⟩, ⟨(PyData.keyHash P z11), (.str z11 173), (.str z1 172)⟩, ⟨(PyData.keyHash P z12), (.str z12 174), .none⟩, ⟨(PyData.keyHash P z13), (.str z13 193), (.ref 21)⟩, ⟨(PyData.keyHash P z14), (.str z14 197), (.int 1114111 196)⟩, ⟨(PyData.keyHash P z15), (.str z15 204), (.ref 28)⟩, ⟨(PyData.keyHash P z16), (.str z16 211), (.ref 35)⟩, ⟨(PyData.keyHash P z17), (.str z17 218), (.ref 42)⟩, ⟨(PyData.keyHash P z18), (.str z18 225), (.ref 49)⟩, ⟨(PyData.keyHash P z19), (.str z19 232), (.ref 56)⟩, ⟨(PyData.keyHash P z20), (.str z20 239), (.ref 63)⟩, ⟨(PyData.keyHash P z21), (.str z21 246), (.ref 70)⟩, ⟨(PyData.keyHash P z22), (.str z22 253), (.ref 77)⟩, ⟨(PyData.keyHash P z23), (.str z23 259), (.ref 82)⟩, ⟨(PyData.keyHash P z24), (.str z24 267), (.ref 89)⟩, ⟨(PyData.keyHash P z25), (.str z25 275), (.ref 96)⟩, ⟨(PyData.keyHash P z33), (.str z33 282), (.ref 103)⟩, ⟨(PyData.keyHash P z34), (.str z34 292), (.ref 110)⟩, ⟨(PyData.keyHash P z35), (.str z35 301), (.ref 117)⟩, ⟨(PyData.keyHash P z36), (.str z36 311), (.ref 125)⟩, ⟨(PyData.keyHash P z37), (.str z37 333), (.ref 135)⟩]⟩ 27), ⟨[]⟩⟩
noncomputable def y90 (P : Params) : Obj := ⟨.none, none, (.fields ⟨[(.int 1 0), (.int 0 0), (.ref 20), (.int 6 0), (.int 0 0), (.ref 27), (.int 8 0), (.int 0 0), (.ref 34), (.int 10 0), (.int 0 0), (.ref 41), (.int 12 0), (.int 0 0), (.ref 48), (.int 14 0), (.int 0 0), (.ref 55), (.int 16 0), (.int 0 0), (.ref 62), (.int 18 0), (.int 0 0), (.ref 69), (.int 20 0), (.int 0 0), (.ref 76), (.int 28 0), (.int 0 0), (.ref 81), (.int 30 0), (.int 0 0), (.ref 88), (.int 37 0), (.int 0 0), (.ref 95), (.int 44 0), (.int 0 0), (.ref 102), (.int 51 0), (.int 0 0), (.ref 109), (.int 60 0), (.int 0 0), (.ref 116), (.int 66 0), (.int 0 0), (.ref 124), (.int 72 0), (.int 0 0), (.ref 131)]⟩), ⟨[]⟩⟩
noncomputable def y91 (P : Params) : Obj := ⟨(.type "tuple"), none, (.seq ⟨[]⟩ 0), ⟨[]⟩⟩
noncomputable def y92 (P : Params) : Obj := ⟨.none, none, (.fields ⟨[]⟩), ⟨[]⟩⟩
noncomputable def y93 (P : Params) : Obj := ⟨(.type "tuple"), none, (.seq ⟨[(.str z28 279)]⟩ 0), ⟨[]⟩⟩
noncomputable def y94 (P : Params) : Obj := ⟨(.type "tuple"), none, (.seq ⟨[]⟩ 0), ⟨[]⟩⟩
noncomputable def y95 (P : Params) : Obj := ⟨.none, none, (.func (FuncData.mk z33 z33 (argsOf (stAt 14)) (FuncBody.stmts (bodyOf (stAt 14))) (scopeOf (stAt 14)) 0 [] .none .none .none .none none .none .none 0)), ⟨[]⟩⟩
noncomputable def y96 (P : Params) : Obj := ⟨(.type "code"), none, (.fields ⟨[(.str z33 276), (.str z33 277), (.str z1 278), (.int 44 0), (.int 1 0), (.int 0 0), (.int 0 0), (.int 3 0), (.ref 97), (.bool Bool.true), (.int 181 0), (.ref 98), .none, (.ref 99), (.ref 100), (.ref 101), (.int 280 0), (.int 44 0), (.str z1 281)]⟩), ⟨[]⟩⟩
noncomputable def y97 (P : Params) : Obj := ⟨(.type "function"), none, (.func (FuncData.mk z33 z33 (argsOf (stAt 14)) (FuncBody.stmts (bodyOf (stAt 14))) (scopeOf (stAt 14)) 3 [] .none .none .none (.str z4 194) none (.ref 102) .none 0)), ⟨[]⟩⟩
noncomputable def y98 (P : Params) : Obj := ⟨(.type "tuple"), none, (.seq ⟨[]⟩ 0), ⟨[]⟩⟩
noncomputable def y99 (P : Params) : Obj := ⟨.none, none, (.fields ⟨[]⟩), ⟨[]⟩⟩
noncomputable def y100 (P : Params) : Obj := ⟨(.type "tuple"), none, (.seq ⟨[(.str z27 288), (.str z38 289)]⟩ 0), ⟨[]⟩⟩
noncomputable def y101 (P : Params) : Obj := ⟨(.type "tuple"), none, (.seq ⟨[]⟩ 0), ⟨[]⟩⟩
noncomputable def y102 (P : Params) : Obj := ⟨.none, none, (.func (FuncData.mk z34 z34 (argsOf (stAt 16)) (FuncBody.stmts (bodyOf (stAt 16))) (scopeOf (stAt 16)) 0 [] .none .none .none .none none .none .none 0)), ⟨[]⟩⟩
noncomputable def y103 (P : Params) : Obj := ⟨(.type "code"), none, (.fields ⟨[(.str z34 285), (.str z34 286), (.str z1 287), (.int 51 0), (.int 1 0), (.int 0 0), (.int 0 0), (.int 3 0), (.ref 104), (.bool Bool.true), (.int 181 0), (.ref 105), .none, (.ref 106), (.ref 107), (.ref 108), (.int 290 0), (.int 51 0), (.str z1 291)]⟩), ⟨[]⟩⟩
noncomputable def y104 (P : Params) : Obj := ⟨(.type "function"), none, (.func (FuncData.mk z34 z34 (argsOf (stAt 16)) (FuncBody.stmts (bodyOf (stAt 16))) (scopeOf (stAt 16)) 3 [] .none .none .none (.str z39 283) none (.ref 109) .none 0)), ⟨[]⟩⟩
noncomputable def y105 (P : Params) : Obj := ⟨(.type "tuple"), none, (.seq ⟨[]⟩ 0), ⟨[]⟩⟩
noncomputable def y106 (P : Params) : Obj := ⟨.none, none, (.fields ⟨[]⟩), ⟨[]⟩⟩
noncomputable def y107 (P : Params) : Obj := ⟨(.type "tuple"), none, (.seq ⟨[(.str z28 296), (.str z40 297), (.str z29 298)]⟩ 0), ⟨[]⟩⟩
noncomputable def y108 (P : Params) : Obj := ⟨(.type "tuple"), none, (.seq ⟨[]⟩ 0), ⟨[]⟩⟩
noncomputable def y109 (P : Params) : Obj := ⟨.none, none, (.func (FuncData.mk z35 z35 (argsOf (stAt 17)) (FuncBody.stmts (bodyOf (stAt 17))) (scopeOf (stAt 17)) 0 [] .none .none .none .none none .none .none 0)), ⟨[]⟩⟩
noncomputable def y110 (P : Params) : Obj := ⟨(.type "code"), none, (.fields ⟨[(.str z35 293), (.str z35 294), (.str z1 295), (.int 60 0), (.int 1 0), (.int 0 0), (.int 0 0), (.int 3 0), (.ref 111), (.bool Bool.true), (.int 181 0), (.ref 112), .none, (.ref 113), (.ref 114), (.ref 115), (.int 299 0), (.int 60 0), (.str z1 300)]⟩), ⟨[]⟩⟩
noncomputable def y111 (P : Params) : Obj := ⟨(.type "function"), none, (.func (FuncData.mk z35 z35 (argsOf (stAt 17)) (FuncBody.stmts (bodyOf (stAt 17))) (scopeOf (stAt 17)) 3 [] .none .none .none (.str z39 283) none (.ref 116) .none 0)), ⟨[]⟩⟩
noncomputable def y112 (P : Params) : Obj := ⟨(.type "tuple"), none, (.seq ⟨[(.bool Bool.true)]⟩ 0), ⟨[]⟩⟩
noncomputable def y113 (P : Params) : Obj := ⟨(.type "tuple"), none, (.seq ⟨[]⟩ 0), ⟨[]⟩⟩
noncomputable def y114 (P : Params) : Obj := ⟨.none, none, (.fields ⟨[]⟩), ⟨[]⟩⟩
noncomputable def y115 (P : Params) : Obj := ⟨(.type "tuple"), none, (.seq ⟨[(.str z41 305), (.str z42 306), (.str z43 307), (.str z28 308)]⟩ 0), ⟨[]⟩⟩
noncomputable def y116 (P : Params) : Obj := ⟨(.type "tuple"), none, (.seq ⟨[]⟩ 0), ⟨[]⟩⟩
noncomputable def y117 (P : Params) : Obj := ⟨.none, none, (.func (FuncData.mk z36 z36 (argsOf (stAt 18)) (FuncBody.stmts (bodyOf (stAt 18))) (scopeOf (stAt 18)) 0 [] .none .none .none .none none .none .none 0)), ⟨[]⟩⟩
noncomputable def y118 (P : Params) : Obj := ⟨(.type "code"), none, (.fields ⟨[(.str z36 302), (.str z36 303), (.str z1 304), (.int 66 0), (.int 3 0), (.int 0 0), (.int 0 0), (.int 3 0), (.ref 119), (.bool Bool.true), (.int 181 0), (.ref 120), .none, (.ref 121), (.ref 122), (.ref 123), (.int 309 0), (.int 66 0), (.str z1 310)]⟩), ⟨[]⟩⟩
noncomputable def y119 (P : Params) : Obj := ⟨(.type "function"), none, (.func (FuncData.mk z36 z36 (argsOf (stAt 18)) (FuncBody.stmts (bodyOf (stAt 18))) (scopeOf (stAt 18)) 3 [] (.ref 118) .none .none (.str z39 283) none (.ref 124) .none 0)), ⟨[]⟩⟩
noncomputable def y120 (P : Params) : Obj := ⟨(.type "tuple"), none, (.seq ⟨[(.type "Exception")]⟩ 0), ⟨[]⟩⟩
noncomputable def y121 (P : Params) : Obj := ⟨(.type "builtin_function_or_method"), none, (.fields ⟨[(.builtin "type.__prepare__"), (.type "type")]⟩), ⟨[]⟩⟩
noncomputable def y122 (P : Params) : Obj := ⟨(.type "dict"), none, (.dict ⟨[⟨(PyData.keyHash P z44), (.str z44 321), (.str z32 312)⟩, ⟨(PyData.keyHash P z45), (.str z45 323), (.str z37 322)⟩, ⟨(PyData.keyHash P z46), (.str z46 325), (.int 72 324)⟩, ⟨(PyData.keyHash P z47), (.str z47 326), (.ref 133)⟩]⟩ 4), ⟨[]⟩⟩
noncomputable def y123 (P : Params) : Obj := ⟨(.type "tuple"), none, (.seq ⟨[]⟩ 0), ⟨[]⟩⟩
noncomputable def y124 (P : Params) : Obj := ⟨.none, none, (.fields ⟨[]⟩), ⟨[]⟩⟩
noncomputable def y125 (P : Params) : Obj := ⟨(.type "code"), none, (.fields ⟨[(.str z37 316), (.str z37 317), (.str z1 318), (.int 72 0), (.int 0 0), (.int 0 0), (.int 0 0), (.int 0 0), (.ref 129), (.bool Bool.false), (.int 181 0), (.ref 130), .none, .none, .none, .none, (.int 319 0), (.int 72 0), (.str z1 320)]⟩), ⟨[]⟩⟩
noncomputable def y126 (P : Params) : Obj := ⟨(.type "frame"), none, .plain, ⟨[(some (.ref 131)), (some (.ref 3)), (some (.ref 128)), none, (some (.str z32 312)), none, (some (.ref 0))]⟩⟩
noncomputable def y127 (P : Params) : Obj := ⟨(.type "tuple"), none, (.seq ⟨[]⟩ 0), ⟨[]⟩⟩
noncomputable def y128 (P : Params) : Obj := ⟨(.type "dict"), none, (.dict ⟨[⟨(PyData.keyHash P z44), (.str z44 321), (.str z32 312)⟩, ⟨(PyData.keyHash P z46), (.str z46 325), (.int 72 324)⟩, ⟨(PyData.keyHash P z47), (.str z47 326), (.ref 133)⟩, ⟨(PyData.keyHash P z48), (.str z48 328), (.ref 136)⟩, ⟨(PyData.keyHash P z5), (.str z5 329), .none⟩]⟩ 3), ⟨[]⟩⟩
noncomputable def y129 (P : Params) : Obj := ⟨(.type "type"), none, (.cls (ClassData.mk z37 [(.type "Exception")] [(.ref 135), (.type "Exception"), (.type "BaseException"), (.type "object")] 134 z37 Bool.true [] [] Bool.false none Bool.false)), ⟨[(some (.ref 126)), none, (some (.str z37 314)), (some (.str z37 322)), (some (.builtin "Exception.__new__")), (some (.bool Bool.true))]⟩⟩
noncomputable def y130 (P : Params) : Obj := ⟨(.type "getset_descriptor"), none, (.fields ⟨[(.str z48 327), (.ref 135), (.builtin "ExceptionGroup.__weakref__"), .none]⟩), ⟨[]⟩⟩
noncomputable def y131 (P : Params) : Obj := ⟨(.type "super"), none, (.fields ⟨[(.ref 135), (.ref 135), (.ref 135)]⟩), ⟨[]⟩⟩
noncomputable def y132 (P : Params) : Obj := ⟨(.type "builtin_function_or_method"), none, (.fields ⟨[(.builtin "object.__init_subclass__"), (.ref 135)]⟩), ⟨[]⟩⟩
noncomputable def t2 (P : Params) : BT := (.node (boot_o_0 P) (.node (boot_o_1 P) (.node (y89 P) (.node (boot_o_7 P) (.node (y6 P) (.node (y22 P) (.node (y54 P) (.node (y121 P) .nil .nil) .nil) (.node (y86 P) .nil .nil)) (.node (y38 P) (.node (y70 P) .nil .nil) (.node (y105 P) .nil .nil))) (.node (y14 P) (.node (y30 P) (.node (y62 P) (.node (y129 P) .nil .nil) .nil) (.node (y97 P) .nil .nil)) (.node (y46 P) (.node (y78 P) .nil .nil) (.node (y113 P) .nil .nil)))) (.node (y0 P) (.node (y10 P) (.node (y26 P) (.node (y58 P) (.node (y125 P) .nil .nil) .nil) (.node (y93 P) .nil .nil)) (.node (y42 P) (.node (y74 P) .nil .nil) (.node (y109 P) .nil .nil))) (.node (y18 P) (.node (y34 P) (.node (y66 P) .nil .nil) (.node (y101 P) .nil .nil)) (.node (y50 P) (.node (y82 P) .nil .nil) (.node (y117 P) .nil .nil))))) (.node (boot_o_5 P) (.node (boot_o_9 P) (.node (y8 P) (.node (y24 P) (.node (y56 P) (.node (y123 P) .nil .nil) .nil) (.node (y91 P) .nil .nil)) (.node (y40 P) (.node (y72 P) .nil .nil) (.node (y107 P) .nil .nil))) (.node (y16 P) (.node (y32 P) (.node (y64 P) (.node (y131 P) .nil .nil) .nil) (.node (y99 P) .nil .nil)) (.node (y48 P) (.node (y80 P) .nil .nil) (.node (y115 P) .nil .nil)))) (.node (y2 P) (.node (y12 P) (.node (y28 P) (.node (y60 P) (.node (y127 P) .nil .nil) .nil) (.node (y95 P) .nil .nil)) (.node (y44 P) (.node (y76 P) .nil .nil) (.node (y111 P) .nil .nil))) (.node (y20 P) (.node (y36 P) (.node (y68 P) .nil .nil) (.node (y103 P) .nil .nil)) (.node (y52 P) (.node (y84 P) .nil .nil) (.node (y119 P) .nil .nil)))))) (.node (y88 P) (.node (boot_o_4 P) (.node (boot_o_8 P) (.node (y7 P) (.node (y23 P) (.node (y55 P) (.node (y122 P) .nil .nil) .nil) (.node (y87 P) .nil .nil)) (.node (y39 P) (.node (y71 P) .nil .nil) (.node (y106 P) .nil .nil))) (.node (y15 P) (.node (y31 P) (.node (y63 P) (.node (y130 P) .nil .nil) .nil) (.node (y98 P) .nil .nil)) (.node (y47 P) (.node (y79 P) .nil .nil) (.node (y114 P) .nil .nil)))) (.node (y90 P) (.node (y11 P) (.node (y27 P) (.node (y59 P) (.node (y126 P) .nil .nil) .nil) (.node (y94 P) .nil .nil)) (.node (y43 P) (.node (y75 P) .nil .nil) (.node (y110 P) .nil .nil))) (.node (y19 P) (.node (y35 P) (.node (y67 P) .nil .nil) (.node (y102 P) .nil .nil)) (.node (y51 P) (.node (y83 P) .nil .nil) (.node (y118 P) .nil .nil))))) (.node (boot_o_6 P) (.node (boot_o_10 P) (.node (y9 P) (.node (y25 P) (.node (y57 P) (.node (y124 P) .nil .nil) .nil) (.node (y92 P) .nil .nil)) (.node (y41 P) (.node (y73 P) .nil .nil) (.node (y108 P) .nil .nil))) (.node (y17 P) (.node (y33 P) (.node (y65 P) (.node (y132 P) .nil .nil) .nil) (.node (y100 P) .nil .nil)) (.node (y49 P) (.node (y81 P) .nil .nil) (.node (y116 P) .nil .nil)))) (.node (y3 P) (.node (y13 P) (.node (y29 P) (.node (y61 P) (.node (y128 P) .nil .nil) .nil) (.node (y96 P) .nil .nil)) (.node (y45 P) (.node (y77 P) .nil .nil) (.node (y112 P) .nil .nil))) (.node (y21 P) (.node (y37 P) (.node (y69 P) .nil .nil) (.node (y104 P) .nil .nil)) (.node (y53 P) (.node (y85 P) .nil .nil) (.node (y120 P) .nil .nil)))))))
noncomputable def pos2 : Pos := (Pos.mk 72 0 73 8)
noncomputable def y133 (P : Params) : Obj := ⟨(.type "dict"), none, (.dict ⟨[⟨(PyData.keyHash P z3), (.str z3 165), (.str z32 312)⟩, ⟨(PyData.keyHash P z5), (.str z5 166), .none⟩, ⟨(PyData.keyHash P z6), (.str z6 167), .none⟩, ⟨(PyData.keyHash P z7), (.str z7 168), (.builtin "__main__.__loader__#opaque")⟩, ⟨(PyData.keyHash P z8), (.str z8 169), .none⟩, ⟨(PyData.keyHash P z9), (.str z9 170), (.ref 6)⟩, ⟨(PyData.keyHash P z10), (.str z10 171), (.ref 4)⟩, ⟨(PyData.keyHash P z11), (.str z11 173), (.str z1 172)⟩, ⟨(PyData.keyHash P z12), (.str z12 174), .none⟩, ⟨(PyData.keyHash P z13), (.str z13 193), (.ref 21)⟩, ⟨(PyData.keyHash P z14), (.str z14 197), (.int 1114111 196)⟩, ⟨(PyData.keyHash P z15), (.str z15 204), (.ref 28)⟩, ⟨(PyData.keyHash P z16), (.str z16 211), (.ref 35)⟩, ⟨(PyData.keyHash P z17), (.str z17 218), (.ref 42)⟩, ⟨(PyData.keyHash P z18), (.str z18 225), (.ref 49)⟩, ⟨(PyData.keyHash P z19), (.str z19 232), (.ref 56)⟩, ⟨(PyData.keyHash P z20), (.str z20 239), (.ref 63)⟩, ⟨(PyData.keyHash P z21), (.str z21 246), (.ref 70)⟩, ⟨(PyData.keyHash P z22), (.str z22 253), (.ref 77)⟩, ⟨(PyData.keyHash P z23), (.str z23 259), (.ref 82)⟩, ⟨(PyData.keyHash P z24), (.str z24 267), (.ref 89)⟩, ⟨(PyData.keyHash P z25), (.str z25 275), (.ref 96)⟩, ⟨(PyData.keyHash P z33), (.str z33 282), (.ref 103)⟩, ⟨(PyData.keyHash P z34), (.str z34 292), (.ref 110)⟩, ⟨(PyData.keyHash P z35), (.str z35 301), (.ref 117)⟩, ⟨(PyData.keyHash P z36), (.str z36 311), (.ref 125)⟩, ⟨(PyData.keyHash P z37), (.str z37 333), (.ref 135)⟩, ⟨(PyData.keyHash P z49), (.str z49 364), (.ref 155)⟩, ⟨(PyData.keyHash P z50), (.str z50 370), (.ref 164)⟩, ⟨(PyData.keyHash P z51), (.str z51 376), (.ref 171)⟩]⟩ 30), ⟨[]⟩⟩
noncomputable def y134 (P : Params) : Obj := ⟨.none, none, (.fields ⟨[(.int 1 0), (.int 0 0), (.ref 20), (.int 6 0), (.int 0 0), (.ref 27), (.int 8 0), (.int 0 0), (.ref 34), (.int 10 0), (.int 0 0), (.ref 41), (.int 12 0), (.int 0 0), (.ref 48), (.int 14 0), (.int 0 0), (.ref 55), (.int 16 0), (.int 0 0), (.ref 62), (.int 18 0), (.int 0 0), (.ref 69), (.int 20 0), (.int 0 0), (.ref 76), (.int 28 0), (.int 0 0), (.ref 81), (.int 30 0), (.int 0 0), (.ref 88), (.int 37 0), (.int 0 0), (.ref 95), (.int 44 0), (.int 0 0), (.ref 102), (.int 51 0), (.int 0 0), (.ref 109), (.int 60 0), (.int 0 0), (.ref 116), (.int 66 0), (.int 0 0), (.ref 124), (.int 72 0), (.int 0 0), (.ref 131), (.int 74 0), (.int 0 0), (.ref 144), (.int 81 0), (.int 0 0), (.ref 163), (.int 83 0), (.int 0 0), (.ref 170)]⟩), ⟨[]⟩⟩
noncomputable def y135 (P : Params) : Obj := ⟨(.type "type"), none, (.cls (ClassData.mk z37 [(.type "Exception")] [(.ref 135), (.type "Exception"), (.type "BaseException"), (.type "object")] 134 z37 Bool.true [] [(.ref 155)] Bool.false none Bool.false)), ⟨[(some (.ref 126)), none, (some (.str z37 314)), (some (.str z37 322)), (some (.builtin "Exception.__new__")), (some (.bool Bool.true))]⟩⟩
noncomputable def y136 (P : Params) : Obj := ⟨(.type "tuple"), none, (.seq ⟨[(.ref 135)]⟩ 0), ⟨[]⟩⟩
noncomputable def y137 (P : Params) : Obj := ⟨(.type "builtin_function_or_method"), none, (.fields ⟨[(.builtin "type.__prepare__"), (.type "type")]⟩), ⟨[]⟩⟩
noncomputable def y138 (P : Params) : Obj := ⟨(.type "dict"), none, (.dict ⟨[⟨(PyData.keyHash P z44), (.str z44 341), (.str z32 312)⟩, ⟨(PyData.keyHash P z45), (.str z45 343), (.str z49 342)⟩, ⟨(PyData.keyHash P z46), (.str z46 345), (.int 74 344)⟩, ⟨(PyData.keyHash P z52), (.str z52 356), (.ref 152)⟩, ⟨(PyData.keyHash P z47), (.str z47 361), (.ref 153)⟩]⟩ 5), ⟨[]⟩⟩
noncomputable def y139 (P : Params) : Obj := ⟨(.type "tuple"), none, (.seq ⟨[]⟩ 0), ⟨[]⟩⟩
noncomputable def y140 (P : Params) : Obj := ⟨.none, none, (.fields ⟨[(.int 76 0), (.int 4 0), (.ref 151)]⟩), ⟨[]⟩⟩
noncomputable def y141 (P : Params) : Obj := ⟨(.type "code"), none, (.fields ⟨[(.str z49 336), (.str z49 337), (.str z1 338), (.int 74 0), (.int 0 0), (.int 0 0), (.int 0 0), (.int 0 0), (.ref 142), (.bool Bool.false), (.int 181 0), (.ref 143), .none, .none, .none, .none, (.int 339 0), (.int 74 0), (.str z1 340)]⟩), ⟨[]⟩⟩
noncomputable def y142 (P : Params) : Obj := ⟨(.type "frame"), none, .plain, ⟨[(some (.ref 144)), (some (.ref 3)), (some (.ref 141)), none, (some (.str z32 312)), none, (some (.ref 0))]⟩⟩
noncomputable def y143 (P : Params) : Obj := ⟨(.type "tuple"), none, (.seq ⟨[]⟩ 0), ⟨[]⟩⟩
noncomputable def y144 (P : Params) : Obj := ⟨.none, none, (.fields ⟨[]⟩), ⟨[]⟩⟩
noncomputable def y145 (P : Params) : Obj := ⟨(.type "tuple"), none, (.seq ⟨[(.str z53 349), (.str z54 350), (.str z55 351), (.str z56 352), (.str z57 353)]⟩ 0), ⟨[]⟩⟩
noncomputable def y146 (P : Params) : Obj := ⟨(.type "tuple"), none, (.seq ⟨[]⟩ 0), ⟨[]⟩⟩
noncomputable def y147 (P : Params) : Obj := ⟨.none, none, (.func (FuncData.mk z52 z58 (argsOf (inAt 21 0)) (FuncBody.stmts (bodyOf (inAt 21 0))) (scopeOf (inAt 21 0)) 0 [] .none .none .none .none none .none .none 0)), ⟨[]⟩⟩
noncomputable def y148 (P : Params) : Obj := ⟨(.type "code"), none, (.fields ⟨[(.str z52 346), (.str z58 347), (.str z1 348), (.int 76 0), (.int 5 0), (.int 0 0), (.int 0 0), (.int 3 0), (.ref 146), (.bool Bool.true), (.int 181 0), (.ref 147), .none, (.ref 148), (.ref 149), (.ref 150), (.int 354 0), (.int 76 0), (.str z1 355)]⟩), ⟨[]⟩⟩
noncomputable def y149 (P : Params) : Obj := ⟨(.type "function"), none, (.func (FuncData.mk z52 z58 (argsOf (inAt 21 0)) (FuncBody.stmts (bodyOf (inAt 21 0))) (scopeOf (inAt 21 0)) 3 [] .none .none .none (.str z32 312) none (.ref 151) .none 0)), ⟨[]⟩⟩
noncomputable def y150 (P : Params) : Obj := ⟨(.type "tuple"), none, (.seq ⟨[(.str z55 357), (.str z57 358), (.str z54 359), (.str z56 360)]⟩ 0), ⟨[]⟩⟩
noncomputable def y151 (P : Params) : Obj := ⟨(.type "dict"), none, (.dict ⟨[⟨(PyData.keyHash P z44), (.str z44 341), (.str z32 312)⟩, ⟨(PyData.keyHash P z46), (.str z46 345), (.int 74 344)⟩, ⟨(PyData.keyHash P z52), (.str z52 356), (.ref 152)⟩, ⟨(PyData.keyHash P z47), (.str z47 361), (.ref 153)⟩, ⟨(PyData.keyHash P z5), (.str z5 362), .none⟩]⟩ 2), ⟨[]⟩⟩
noncomputable def y152 (P : Params) : Obj := ⟨(.type "type"), none, (.cls (ClassData.mk z49 [(.ref 135)] [(.ref 155), (.ref 135), (.type "Exception"), (.type "BaseException"), (.type "object")] 154 z49 Bool.true [] [] Bool.false none Bool.false)), ⟨[(some (.ref 139)), none, (some (.str z49 334)), (some (.str z49 342)), (some (.builtin "Exception.__new__")), (some (.bool Bool.true))]⟩⟩
noncomputable def y153 (P : Params) : Obj := ⟨(.type "super"), none, (.fields ⟨[(.ref 155), (.ref 155), (.ref 155)]⟩), ⟨[]⟩⟩
noncomputable def y154 (P : Params) : Obj := ⟨(.type "builtin_function_or_method"), none, (.fields ⟨[(.builtin "object.__init_subclass__"), (.ref 155)]⟩), ⟨[]⟩⟩
noncomputable def y155 (P : Params) : Obj := ⟨(.type "tuple"), none, (.seq ⟨[]⟩ 0), ⟨[]⟩⟩
noncomputable def y156 (P : Params) : Obj := ⟨.none, none, (.fields ⟨[]⟩), ⟨[]⟩⟩
noncomputable def y157 (P : Params) : Obj := ⟨(.type "tuple"), none, (.seq ⟨[]⟩ 0), ⟨[]⟩⟩
noncomputable def y158 (P : Params) : Obj := ⟨(.type "tuple"), none, (.seq ⟨[]⟩ 0), ⟨[]⟩⟩
noncomputable def y159 (P : Params) : Obj := ⟨.none, none, (.func (FuncData.mk z50 z50 (argsOf (stAt 22)) (FuncBody.stmts (bodyOf (stAt 22))) (scopeOf (stAt 22)) 0 [] .none .none .none .none none .none .none 0)), ⟨[]⟩⟩
noncomputable def y160 (P : Params) : Obj := ⟨(.type "code"), none, (.fields ⟨[(.str z50 365), (.str z50 366), (.str z1 367), (.int 81 0), (.int 0 0), (.int 0 0), (.int 0 0), (.int 3 0), (.ref 158), (.bool Bool.true), (.int 181 0), (.ref 159), .none, (.ref 160), (.ref 161), (.ref 162), (.int 368 0), (.int 81 0), (.str z1 369)]⟩), ⟨[]⟩⟩
noncomputable def y161 (P : Params) : Obj := ⟨(.type "function"), none, (.func (FuncData.mk z50 z50 (argsOf (stAt 22)) (FuncBody.stmts (bodyOf (stAt 22))) (scopeOf (stAt 22)) 3 [] .none .none .none (.str z32 312) none (.ref 163) .none 0)), ⟨[]⟩⟩
noncomputable def y162 (P : Params) : Obj := ⟨(.type "tuple"), none, (.seq ⟨[]⟩ 0), ⟨[]⟩⟩
noncomputable def y163 (P : Params) : Obj := ⟨.none, none, (.fields ⟨[]⟩), ⟨[]⟩⟩
noncomputable def y164 (P : Params) : Obj := ⟨(.type "tuple"), none, (.seq ⟨[]⟩ 0), ⟨[]⟩⟩
noncomputable def y165 (P : Params) : Obj := ⟨(.type "tuple"), none, (.seq ⟨[]⟩ 0), ⟨[]⟩⟩
noncomputable def y166 (P : Params) : Obj := ⟨.none, none, (.func (FuncData.mk z51 z51 (argsOf (stAt 22)) (FuncBody.stmts (bodyOf (stAt 23))) (scopeOf (stAt 22)) 0 [] .none .none .none .none none .none .none 0)), ⟨[]⟩⟩
noncomputable def y167 (P : Params) : Obj := ⟨(.type "code"), none, (.fields ⟨[(.str z51 371), (.str z51 372), (.str z1 373), (.int 83 0), (.int 0 0), (.int 0 0), (.int 0 0), (.int 3 0), (.ref 165), (.bool Bool.true), (.int 181 0), (.ref 166), .none, (.ref 167), (.ref 168), (.ref 169), (.int 374 0), (.int 83 0), (.str z1 375)]⟩), ⟨[]⟩⟩
noncomputable def y168 (P : Params) : Obj := ⟨(.type "function"), none, (.func (FuncData.mk z51 z51 (argsOf (stAt 22)) (FuncBody.stmts (bodyOf (stAt 23))) (scopeOf (stAt 22)) 3 [] .none .none .none (.str z32 312) none (.ref 170) .none 0)), ⟨[]⟩⟩
noncomputable def t3 (P : Params) : BT := (.node (boot_o_0 P) (.node (boot_o_1 P) (.node (y133 P) (.node (boot_o_7 P) (.node (y6 P) (.node (y22 P) (.node (y54 P) (.node (y121 P) .nil .nil) .nil) (.node (y86 P) (.node (y156 P) .nil .nil) .nil)) (.node (y38 P) (.node (y70 P) (.node (y140 P) .nil .nil) .nil) (.node (y105 P) .nil .nil))) (.node (y14 P) (.node (y30 P) (.node (y62 P) (.node (y135 P) .nil .nil) .nil) (.node (y97 P) (.node (y164 P) .nil .nil) .nil)) (.node (y46 P) (.node (y78 P) (.node (y148 P) .nil .nil) .nil) (.node (y113 P) .nil .nil)))) (.node (y0 P) (.node (y10 P) (.node (y26 P) (.node (y58 P) (.node (y125 P) .nil .nil) .nil) (.node (y93 P) (.node (y160 P) .nil .nil) .nil)) (.node (y42 P) (.node (y74 P) (.node (y144 P) .nil .nil) .nil) (.node (y109 P) .nil .nil))) (.node (y18 P) (.node (y34 P) (.node (y66 P) (.node (y136 P) .nil .nil) .nil) (.node (y101 P) (.node (y168 P) .nil .nil) .nil)) (.node (y50 P) (.node (y82 P) (.node (y152 P) .nil .nil) .nil) (.node (y117 P) .nil .nil))))) (.node (boot_o_5 P) (.node (boot_o_9 P) (.node (y8 P) (.node (y24 P) (.node (y56 P) (.node (y123 P) .nil .nil) .nil) (.node (y91 P) (.node (y158 P) .nil .nil) .nil)) (.node (y40 P) (.node (y72 P) (.node (y142 P) .nil .nil) .nil) (.node (y107 P) .nil .nil))) (.node (y16 P) (.node (y32 P) (.node (y64 P) (.node (y131 P) .nil .nil) .nil) (.node (y99 P) (.node (y166 P) .nil .nil) .nil)) (.node (y48 P) (.node (y80 P) (.node (y150 P) .nil .nil) .nil) (.node (y115 P) .nil .nil)))) (.node (y2 P) (.node (y12 P) (.node (y28 P) (.node (y60 P) (.node (y127 P) .nil .nil) .nil) (.node (y95 P) (.node (y162 P) .nil .nil) .nil)) (.node (y44 P) (.node (y76 P) (.node (y146 P) .nil .nil) .nil) (.node (y111 P) .nil .nil))) (.node (y20 P) (.node (y36 P) (.node (y68 P) (.node (y138 P) .nil .nil) .nil) (.node (y103 P) .nil .nil)) (.node (y52 P) (.node (y84 P) (.node (y154 P) .nil .nil) .nil) (.node (y119 P) .nil .nil)))))) (.node (y88 P) (.node (boot_o_4 P) (.node (boot_o_8 P) (.node (y7 P) (.node (y23 P) (.node (y55 P) (.node (y122 P) .nil .nil) .nil) (.node (y87 P) (.node (y157 P) .nil .nil) .nil)) (.node (y39 P) (.node (y71 P) (.node (y141 P) .nil .nil) .nil) (.node (y106 P) .nil .nil))) (.node (y15 P) (.node (y31 P) (.node (y63 P) (.node (y130 P) .nil .nil) .nil) (.node (y98 P) (.node (y165 P) .nil .nil) .nil)) (.node (y47 P) (.node (y79 P) (.node (y149 P) .nil .nil) .nil) (.node (y114 P) .nil .nil)))) (.node (y134 P) (.node (y11 P) (.node (y27 P) (.node (y59 P) (.node (y126 P) .nil .nil) .nil) (.node (y94 P) (.node (y161 P) .nil .nil) .nil)) (.node (y43 P) (.node (y75 P) (.node (y145 P) .nil .nil) .nil) (.node (y110 P) .nil .nil))) (.node (y19 P) (.node (y35 P) (.node (y67 P) (.node (y137 P) .nil .nil) .nil) (.node (y102 P) .nil .nil)) (.node (y51 P) (.node (y83 P) (.node (y153 P) .nil .nil) .nil) (.node (y118 P) .nil .nil))))) (.node (boot_o_6 P) (.node (boot_o_10 P) (.node (y9 P) (.node (y25 P) (.node (y57 P) (.node (y124 P) .nil .nil) .nil) (.node (y92 P) (.node (y159 P) .nil .nil) .nil)) (.node (y41 P) (.node (y73 P) (.node (y143 P) .nil .nil) .nil) (.node (y108 P) .nil .nil))) (.node (y17 P) (.node (y33 P) (.node (y65 P) (.node (y132 P) .nil .nil) .nil) (.node (y100 P) (.node (y167 P) .nil .nil) .nil)) (.node (y49 P) (.node (y81 P) (.node (y151 P) .nil .nil) .nil) (.node (y116 P) .nil .nil)))) (.node (y3 P) (.node (y13 P) (.node (y29 P) (.node (y61 P) (.node (y128 P) .nil .nil) .nil) (.node (y96 P) (.node (y163 P) .nil .nil) .nil)) (.node (y45 P) (.node (y77 P) (.node (y147 P) .nil .nil) .nil) (.node (y112 P) .nil .nil))) (.node (y21 P) (.node (y37 P) (.node (y69 P) (.node (y139 P) .nil .nil) .nil) (.node (y104 P) .nil .nil)) (.node (y53 P) (.node (y85 P) (.node (y155 P) .nil .nil) .nil) (.node (y120 P) .nil .nil)))))))
noncomputable def pos3 : Pos := (Pos.mk 83 0 84 389)
noncomputable def y169 (P : Params) : Obj := ⟨(.type "dict"), none, (.dict ⟨[⟨(PyData.keyHash P z3), (.str z3 165), (.str z32 312)⟩, ⟨(PyData.keyHash P z5), (.str z5 166), .none⟩, ⟨(PyData.keyHash P z6), (.str z6 167), .none⟩, ⟨(PyData.keyHash P z7), (.str z7 168), (.builtin "__main__.__loader__#opaque")⟩, ⟨(PyData.keyHash P z8), (.str z8 169), .none⟩, ⟨(PyData.keyHash P z9), (.str z9 170), (.ref 6)⟩, ⟨(PyData.keyHash P z10), (.str z10 171), (.ref 4)⟩, ⟨(PyData.keyHash P z11), (.str z11 173), (.str z1 172)⟩, ⟨(PyData.keyHash P z12), (.str z12 174), .none⟩, ⟨(PyData.keyHash P z13), (.str z13 193), (.ref 21)⟩, ⟨(PyData.keyHash P z14), (.str z14 197), (.int 1114111 196)⟩, ⟨(PyData.keyHash P z15), (.str z15 204), (.ref 28)⟩, ⟨(PyData.keyHash P z16), (.str z16 211), (.ref 35)⟩, ⟨(PyData.keyHash P z17), (.str z17 218), (.ref 42)⟩, ⟨(PyData.keyHash P z18), (.str z18 225), (.ref 49)⟩, ⟨(PyData.keyHash P z19), (.str z19 232), (.ref 56)⟩, ⟨(PyData.keyHash P z20), (.str z20 239), (.ref 63)⟩, ⟨(PyData.keyHash P z21), (.str z21 246), (.ref 70)⟩, ⟨(PyData.keyHash P z22), (.str z22 253), (.ref 77)⟩, ⟨(PyData.keyHash P z23), (.str z23 259), (.ref 82)⟩, ⟨(PyData.keyHash P z24), (.str z24 267), (.ref 89)⟩, ⟨(PyData.keyHash P z25), (.str z25 275), (.ref 96)⟩, ⟨(PyData.keyHash P z33), (.str z33 282), (.ref 103)⟩, ⟨(PyData.keyHash P z34), (.str z34 292), (.ref 110)⟩, ⟨(PyData.keyHash P z35), (.str z35 301), (.ref 117)⟩, ⟨(PyData.keyHash P z36), (.str z36 311), (.ref 125)⟩, ⟨(PyData.keyHash P z37), (.str z37 333), (.ref 135)⟩, ⟨(PyData.keyHash P z49), (.str z49 364), (.ref 155)⟩, ⟨(PyData.keyHash P z50), (.str z50 370), (.ref 164)⟩, ⟨(PyData.keyHash P z51), (.str z51 376), (.ref 171)⟩, ⟨(PyData.keyHash P z59), (.str z59 495), (.ref 258)⟩]⟩ 31), ⟨[]⟩⟩
noncomputable def y170 (P : Params) : Obj := ⟨.none, none, (.fields ⟨[(.int 1 0), (.int 0 0), (.ref 20), (.int 6 0), (.int 0 0), (.ref 27), (.int 8 0), (.int 0 0), (.ref 34), (.int 10 0), (.int 0 0), (.ref 41), (.int 12 0), (.int 0 0), (.ref 48), (.int 14 0), (.int 0 0), (.ref 55), (.int 16 0), (.int 0 0), (.ref 62), (.int 18 0), (.int 0 0), (.ref 69), (.int 20 0), (.int 0 0), (.ref 76), (.int 28 0), (.int 0 0), (.ref 81), (.int 30 0), (.int 0 0), (.ref 88), (.int 37 0), (.int 0 0), (.ref 95), (.int 44 0), (.int 0 0), (.ref 102), (.int 51 0), (.int 0 0), (.ref 109), (.int 60 0), (.int 0 0), (.ref 116), (.int 66 0), (.int 0 0), (.ref 124), (.int 72 0), (.int 0 0), (.ref 131), (.int 74 0), (.int 0 0), (.ref 144), (.int 81 0), (.int 0 0), (.ref 163), (.int 83 0), (.int 0 0), (.ref 170), (.int 85 0), (.int 0 0), (.ref 177)]⟩), ⟨[]⟩⟩
noncomputable def y171 (P : Params) : Obj := ⟨(.type "tuple"), none, (.seq ⟨[]⟩ 0), ⟨[]⟩⟩
noncomputable def y172 (P : Params) : Obj := ⟨(.type "builtin_function_or_method"), none, (.fields ⟨[(.builtin "type.__prepare__"), (.type "type")]⟩), ⟨[]⟩⟩
noncomputable def y173 (P : Params) : Obj := ⟨(.type "dict"), none, (.dict ⟨[⟨(PyData.keyHash P z44), (.str z44 384), (.str z32 312)⟩, ⟨(PyData.keyHash P z45), (.str z45 386), (.str z59 385)⟩, ⟨(PyData.keyHash P z46), (.str z46 388), (.int 85 387)⟩, ⟨(PyData.keyHash P z52), (.str z52 397), (.ref 185)⟩, ⟨(PyData.keyHash P z60), (.str z60 407), (.ref 192)⟩, ⟨(PyData.keyHash P z28), (.str z28 415), (.ref 199)⟩, ⟨(PyData.keyHash P z61), (.str z61 427), (.ref 206)⟩, ⟨(PyData.keyHash P z62), (.str z62 436), (.ref 213)⟩, ⟨(PyData.keyHash P z63), (.str z63 444), (.ref 220)⟩, ⟨(PyData.keyHash P z64), (.str z64 452), (.ref 227)⟩, ⟨(PyData.keyHash P z65), (.str z65 460), (.ref 234)⟩, ⟨(PyData.keyHash P z66), (.str z66 467), (.ref 241)⟩, ⟨(PyData.keyHash P z67), (.str z67 474), (.ref 248)⟩, ⟨(PyData.keyHash P z68), (.str z68 483), (.ref 255)⟩, ⟨(PyData.keyHash P z47), (.str z47 488), (.ref 256)⟩]⟩ 15), ⟨[]⟩⟩
noncomputable def y174 (P : Params) : Obj := ⟨(.type "tuple"), none, (.seq ⟨[]⟩ 0), ⟨[]⟩⟩
noncomputable def y175 (P : Params) : Obj := ⟨.none, none, (.fields ⟨[(.int 87 0), (.int 4 0), (.ref 184), (.int 97 0), (.int 4 0), (.ref 191), (.int 106 0), (.int 4 0), (.ref 198), (.int 109 0), (.int 4 0), (.ref 205), (.int 119 0), (.int 4 0), (.ref 212), (.int 122 0), (.int 4 0), (.ref 219), (.int 125 0), (.int 4 0), (.ref 226), (.int 128 0), (.int 4 0), (.ref 233), (.int 131 0), (.int 4 0), (.ref 240), (.int 134 0), (.int 4 0), (.ref 247), (.int 137 0), (.int 4 0), (.ref 254)]⟩), ⟨[]⟩⟩
noncomputable def y176 (P : Params) : Obj := ⟨(.type "code"), none, (.fields ⟨[(.str z59 379), (.str z59 380), (.str z1 381), (.int 85 0), (.int 0 0), (.int 0 0), (.int 0 0), (.int 0 0), (.ref 175), (.bool Bool.false), (.int 181 0), (.ref 176), .none, .none, .none, .none, (.int 382 0), (.int 85 0), (.str z1 383)]⟩), ⟨[]⟩⟩
noncomputable def y177 (P : Params) : Obj := ⟨(.type "frame"), none, .plain, ⟨[(some (.ref 177)), (some (.ref 3)), (some (.ref 174)), none, (some (.str z32 312)), none, (some (.ref 0))]⟩⟩
noncomputable def y178 (P : Params) : Obj := ⟨(.type "tuple"), none, (.seq ⟨[]⟩ 0), ⟨[]⟩⟩
noncomputable def y179 (P : Params) : Obj := ⟨.none, none, (.fields ⟨[]⟩), ⟨[]⟩⟩
noncomputable def y180 (P : Params) : Obj := ⟨(.type "tuple"), none, (.seq ⟨[(.str z53 392), (.str z28 393), (.str z56 394)]⟩ 0), ⟨[]⟩⟩
noncomputable def y181 (P : Params) : Obj := ⟨(.type "tuple"), none, (.seq ⟨[]⟩ 0), ⟨[]⟩⟩
noncomputable def y182 (P : Params) : Obj := ⟨.none, none, (.func (FuncData.mk z52 z69 (argsOf (inAt 24 0)) (FuncBody.stmts (bodyOf (inAt 24 0))) (scopeOf (inAt 24 0)) 0 [] .none .none .none .none none .none .none 0)), ⟨[]⟩⟩
noncomputable def y183 (P : Params) : Obj := ⟨(.type "code"), none, (.fields ⟨[(.str z52 389), (.str z69 390), (.str z1 391), (.int 87 0), (.int 1 0), (.int 0 0), (.int 0 0), (.int 3 0), (.ref 179), (.bool Bool.true), (.int 181 0), (.ref 180), .none, (.ref 181), (.ref 182), (.ref 183), (.int 395 0), (.int 87 0), (.str z1 396)]⟩), ⟨[]⟩⟩
noncomputable def y184 (P : Params) : Obj := ⟨(.type "function"), none, (.func (FuncData.mk z52 z69 (argsOf (inAt 24 0)) (FuncBody.stmts (bodyOf (inAt 24 0))) (scopeOf (inAt 24 0)) 3 [] .none .none .none (.str z32 312) none (.ref 184) .none 0)), ⟨[]⟩⟩
noncomputable def y185 (P : Params) : Obj := ⟨(.type "tuple"), none, (.seq ⟨[]⟩ 0), ⟨[]⟩⟩
noncomputable def y186 (P : Params) : Obj := ⟨.none, none, (.fields ⟨[]⟩), ⟨[]⟩⟩
noncomputable def y187 (P : Params) : Obj := ⟨(.type "tuple"), none, (.seq ⟨[(.str z53 401), (.str z28 402), (.str z70 403), (.str z71 404)]⟩ 0), ⟨[]⟩⟩
noncomputable def y188 (P : Params) : Obj := ⟨(.type "tuple"), none, (.seq ⟨[]⟩ 0), ⟨[]⟩⟩
noncomputable def y189 (P : Params) : Obj := ⟨.none, none, (.func (FuncData.mk z60 z72 (argsOf (inAt 24 1)) (FuncBody.stmts (bodyOf (inAt 24 1))) (scopeOf (inAt 24 1)) 0 [] .none .none .none .none none .none .none 0)), ⟨[]⟩⟩
noncomputable def y190 (P : Params) : Obj := ⟨(.type "code"), none, (.fields ⟨[(.str z60 398), (.str z72 399), (.str z1 400), (.int 97 0), (.int 2 0), (.int 0 0), (.int 0 0), (.int 3 0), (.ref 186), (.bool Bool.true), (.int 181 0), (.ref 187), .none, (.ref 188), (.ref 189), (.ref 190), (.int 405 0), (.int 97 0), (.str z1 406)]⟩), ⟨[]⟩⟩
noncomputable def y191 (P : Params) : Obj := ⟨(.type "function"), none, (.func (FuncData.mk z60 z72 (argsOf (inAt 24 1)) (FuncBody.stmts (bodyOf (inAt 24 1))) (scopeOf (inAt 24 1)) 3 [] .none .none .none (.str z32 312) none (.ref 191) .none 0)), ⟨[]⟩⟩
noncomputable def y192 (P : Params) : Obj := ⟨(.type "tuple"), none, (.seq ⟨[]⟩ 0), ⟨[]⟩⟩
noncomputable def y193 (P : Params) : Obj := ⟨.none, none, (.fields ⟨[]⟩), ⟨[]⟩⟩
noncomputable def y194 (P : Params) : Obj := ⟨(.type "tuple"), none, (.seq ⟨[(.str z53 411), (.str z71 412)]⟩ 0), ⟨[]⟩⟩
noncomputable def y195 (P : Params) : Obj := ⟨(.type "tuple"), none, (.seq ⟨[]⟩ 0), ⟨[]⟩⟩
noncomputable def y196 (P : Params) : Obj := ⟨.none, none, (.func (FuncData.mk z28 z73 (argsOf (inAt 24 2)) (FuncBody.stmts (bodyOf (inAt 24 2))) (scopeOf (inAt 24 2)) 0 [] .none .none .none .none none .none .none 0)), ⟨[]⟩⟩
noncomputable def y197 (P : Params) : Obj := ⟨(.type "code"), none, (.fields ⟨[(.str z28 408), (.str z73 409), (.str z1 410), (.int 106 0), (.int 2 0), (.int 0 0), (.int 0 0), (.int 3 0), (.ref 193), (.bool Bool.true), (.int 181 0), (.ref 194), .none, (.ref 195), (.ref 196), (.ref 197), (.int 413 0), (.int 106 0), (.str z1 414)]⟩), ⟨[]⟩⟩
noncomputable def y198 (P : Params) : Obj := ⟨(.type "function"), none, (.func (FuncData.mk z28 z73 (argsOf (inAt 24 2)) (FuncBody.stmts (bodyOf (inAt 24 2))) (scopeOf (inAt 24 2)) 3 [] .none .none .none (.str z32 312) none (.ref 198) .none 0)), ⟨[]⟩⟩
noncomputable def y199 (P : Params) : Obj := ⟨(.type "tuple"), none, (.seq ⟨[]⟩ 0), ⟨[]⟩⟩
noncomputable def y200 (P : Params) : Obj := ⟨.none, none, (.fields ⟨[]⟩), ⟨[]⟩⟩
noncomputable def y201 (P : Params) : Obj := ⟨(.type "tuple"), none, (.seq ⟨[(.str z53 419), (.str z60 420), (.str z64 421), (.str z74 422), (.str z70 423), (.str z71 424)]⟩ 0), ⟨[]⟩⟩
noncomputable def y202 (P : Params) : Obj := ⟨(.type "tuple"), none, (.seq ⟨[]⟩ 0), ⟨[]⟩⟩
noncomputable def y203 (P : Params) : Obj := ⟨.none, none, (.func (FuncData.mk z61 z75 (argsOf (inAt 24 3)) (FuncBody.stmts (bodyOf (inAt 24 3))) (scopeOf (inAt 24 3)) 0 [] .none .none .none .none none .none .none 0)), ⟨[]⟩⟩
noncomputable def y204 (P : Params) : Obj := ⟨(.type "code"), none, (.fields ⟨[(.str z61 416), (.str z75 417), (.str z1 418), (.int 109 0), (.int 3 0), (.int 0 0), (.int 0 0), (.int 3 0), (.ref 200), (.bool Bool.true), (.int 181 0), (.ref 201), .none, (.ref 202), (.ref 203), (.ref 204), (.int 425 0), (.int 109 0), (.str z1 426)]⟩), ⟨[]⟩⟩
noncomputable def y205 (P : Params) : Obj := ⟨(.type "function"), none, (.func (FuncData.mk z61 z75 (argsOf (inAt 24 3)) (FuncBody.stmts (bodyOf (inAt 24 3))) (scopeOf (inAt 24 3)) 3 [] .none .none .none (.str z32 312) none (.ref 205) .none 0)), ⟨[]⟩⟩
noncomputable def y206 (P : Params) : Obj := ⟨(.type "tuple"), none, (.seq ⟨[]⟩ 0), ⟨[]⟩⟩
noncomputable def y207 (P : Params) : Obj := ⟨.none, none, (.fields ⟨[]⟩), ⟨[]⟩⟩
noncomputable def y208 (P : Params) : Obj := ⟨(.type "tuple"), none, (.seq ⟨[(.str z53 431), (.str z28 432), (.str z64 433)]⟩ 0), ⟨[]⟩⟩
noncomputable def y209 (P : Params) : Obj := ⟨(.type "tuple"), none, (.seq ⟨[]⟩ 0), ⟨[]⟩⟩
noncomputable def y210 (P : Params) : Obj := ⟨.none, none, (.func (FuncData.mk z62 z76 (argsOf (inAt 24 4)) (FuncBody.stmts (bodyOf (inAt 24 4))) (scopeOf (inAt 24 4)) 0 [] .none .none .none .none none .none .none 0)), ⟨[]⟩⟩
noncomputable def y211 (P : Params) : Obj := ⟨(.type "code"), none, (.fields ⟨[(.str z62 428), (.str z76 429), (.str z1 430), (.int 119 0), (.int 3 0), (.int 0 0), (.int 0 0), (.int 3 0), (.ref 207), (.bool Bool.true), (.int 181 0), (.ref 208), .none, (.ref 209), (.ref 210), (.ref 211), (.int 434 0), (.int 119 0), (.str z1 435)]⟩), ⟨[]⟩⟩
noncomputable def y212 (P : Params) : Obj := ⟨(.type "function"), none, (.func (FuncData.mk z62 z76 (argsOf (inAt 24 4)) (FuncBody.stmts (bodyOf (inAt 24 4))) (scopeOf (inAt 24 4)) 3 [] .none .none .none (.str z32 312) none (.ref 212) .none 0)), ⟨[]⟩⟩
noncomputable def y213 (P : Params) : Obj := ⟨(.type "tuple"), none, (.seq ⟨[]⟩ 0), ⟨[]⟩⟩
noncomputable def y214 (P : Params) : Obj := ⟨.none, none, (.fields ⟨[]⟩), ⟨[]⟩⟩
noncomputable def y215 (P : Params) : Obj := ⟨(.type "tuple"), none, (.seq ⟨[(.str z53 440), (.str z61 441)]⟩ 0), ⟨[]⟩⟩
noncomputable def y216 (P : Params) : Obj := ⟨(.type "tuple"), none, (.seq ⟨[]⟩ 0), ⟨[]⟩⟩
noncomputable def y217 (P : Params) : Obj := ⟨.none, none, (.func (FuncData.mk z63 z77 (argsOf (inAt 24 5)) (FuncBody.stmts (bodyOf (inAt 24 5))) (scopeOf (inAt 24 5)) 0 [] .none .none .none .none none .none .none 0)), ⟨[]⟩⟩
noncomputable def y218 (P : Params) : Obj := ⟨(.type "code"), none, (.fields ⟨[(.str z63 437), (.str z77 438), (.str z1 439), (.int 122 0), (.int 2 0), (.int 0 0), (.int 0 0), (.int 3 0), (.ref 214), (.bool Bool.true), (.int 181 0), (.ref 215), .none, (.ref 216), (.ref 217), (.ref 218), (.int 442 0), (.int 122 0), (.str z1 443)]⟩), ⟨[]⟩⟩
noncomputable def y219 (P : Params) : Obj := ⟨(.type "function"), none, (.func (FuncData.mk z63 z77 (argsOf (inAt 24 5)) (FuncBody.stmts (bodyOf (inAt 24 5))) (scopeOf (inAt 24 5)) 3 [] .none .none .none (.str z32 312) none (.ref 219) .none 0)), ⟨[]⟩⟩
noncomputable def y220 (P : Params) : Obj := ⟨(.type "tuple"), none, (.seq ⟨[]⟩ 0), ⟨[]⟩⟩
noncomputable def y221 (P : Params) : Obj := ⟨.none, none, (.fields ⟨[]⟩), ⟨[]⟩⟩
noncomputable def y222 (P : Params) : Obj := ⟨(.type "tuple"), none, (.seq ⟨[(.str z53 448), (.str z61 449)]⟩ 0), ⟨[]⟩⟩
noncomputable def y223 (P : Params) : Obj := ⟨(.type "tuple"), none, (.seq ⟨[]⟩ 0), ⟨[]⟩⟩
noncomputable def y224 (P : Params) : Obj := ⟨.none, none, (.func (FuncData.mk z64 z78 (argsOf (inAt 24 6)) (FuncBody.stmts (bodyOf (inAt 24 6))) (scopeOf (inAt 24 5)) 0 [] .none .none .none .none none .none .none 0)), ⟨[]⟩⟩
noncomputable def y225 (P : Params) : Obj := ⟨(.type "code"), none, (.fields ⟨[(.str z64 445), (.str z78 446), (.str z1 447), (.int 125 0), (.int 2 0), (.int 0 0), (.int 0 0), (.int 3 0), (.ref 221), (.bool Bool.true), (.int 181 0), (.ref 222), .none, (.ref 223), (.ref 224), (.ref 225), (.int 450 0), (.int 125 0), (.str z1 451)]⟩), ⟨[]⟩⟩
noncomputable def y226 (P : Params) : Obj := ⟨(.type "function"), none, (.func (FuncData.mk z64 z78 (argsOf (inAt 24 6)) (FuncBody.stmts (bodyOf (inAt 24 6))) (scopeOf (inAt 24 5)) 3 [] .none .none .none (.str z32 312) none (.ref 226) .none 0)), ⟨[]⟩⟩
noncomputable def y227 (P : Params) : Obj := ⟨(.type "tuple"), none, (.seq ⟨[]⟩ 0), ⟨[]⟩⟩
noncomputable def y228 (P : Params) : Obj := ⟨.none, none, (.fields ⟨[]⟩), ⟨[]⟩⟩
noncomputable def y229 (P : Params) : Obj := ⟨(.type "tuple"), none, (.seq ⟨[(.str z53 456), (.str z61 457)]⟩ 0), ⟨[]⟩⟩
noncomputable def y230 (P : Params) : Obj := ⟨(.type "tuple"), none, (.seq ⟨[]⟩ 0), ⟨[]⟩⟩
noncomputable def y231 (P : Params) : Obj := ⟨.none, none, (.func (FuncData.mk z65 z79 (argsOf (inAt 24 7)) (FuncBody.stmts (bodyOf (inAt 24 7))) (scopeOf (inAt 24 7)) 0 [] .none .none .none .none none .none .none 0)), ⟨[]⟩⟩
noncomputable def y232 (P : Params) : Obj := ⟨(.type "code"), none, (.fields ⟨[(.str z65 453), (.str z79 454), (.str z1 455), (.int 128 0), (.int 2 0), (.int 0 0), (.int 0 0), (.int 3 0), (.ref 228), (.bool Bool.true), (.int 181 0), (.ref 229), .none, (.ref 230), (.ref 231), (.ref 232), (.int 458 0), (.int 128 0), (.str z1 459)]⟩), ⟨[]⟩⟩
noncomputable def y233 (P : Params) : Obj := ⟨(.type "function"), none, (.func (FuncData.mk z65 z79 (argsOf (inAt 24 7)) (FuncBody.stmts (bodyOf (inAt 24 7))) (scopeOf (inAt 24 7)) 3 [] .none .none .none (.str z32 312) none (.ref 233) .none 0)), ⟨[]⟩⟩
noncomputable def y234 (P : Params) : Obj := ⟨(.type "tuple"), none, (.seq ⟨[]⟩ 0), ⟨[]⟩⟩
noncomputable def y235 (P : Params) : Obj := ⟨.none, none, (.fields ⟨[]⟩), ⟨[]⟩⟩
noncomputable def y236 (P : Params) : Obj := ⟨(.type "tuple"), none, (.seq ⟨[(.str z53 464)]⟩ 0), ⟨[]⟩⟩
noncomputable def y237 (P : Params) : Obj := ⟨(.type "tuple"), none, (.seq ⟨[]⟩ 0), ⟨[]⟩⟩
noncomputable def y238 (P : Params) : Obj := ⟨.none, none, (.func (FuncData.mk z66 z80 (argsOf (inAt 24 8)) (FuncBody.stmts (bodyOf (inAt 24 8))) (scopeOf (inAt 24 8)) 0 [] .none .none .none .none none .none .none 0)), ⟨[]⟩⟩
noncomputable def y239 (P : Params) : Obj := ⟨(.type "code"), none, (.fields ⟨[(.str z66 461), (.str z80 462), (.str z1 463), (.int 131 0), (.int 1 0), (.int 0 0), (.int 0 0), (.int 3 0), (.ref 235), (.bool Bool.true), (.int 181 0), (.ref 236), .none, (.ref 237), (.ref 238), (.ref 239), (.int 465 0), (.int 131 0), (.str z1 466)]⟩), ⟨[]⟩⟩
noncomputable def y240 (P : Params) : Obj := ⟨(.type "function"), none, (.func (FuncData.mk z66 z80 (argsOf (inAt 24 8)) (FuncBody.stmts (bodyOf (inAt 24 8))) (scopeOf (inAt 24 8)) 3 [] .none .none .none (.str z32 312) none (.ref 240) .none 0)), ⟨[]⟩⟩
noncomputable def y241 (P : Params) : Obj := ⟨(.type "tuple"), none, (.seq ⟨[]⟩ 0), ⟨[]⟩⟩
noncomputable def y242 (P : Params) : Obj := ⟨.none, none, (.fields ⟨[]⟩), ⟨[]⟩⟩
noncomputable def y243 (P : Params) : Obj := ⟨(.type "tuple"), none, (.seq ⟨[(.str z53 471)]⟩ 0), ⟨[]⟩⟩
noncomputable def y244 (P : Params) : Obj := ⟨(.type "tuple"), none, (.seq ⟨[]⟩ 0), ⟨[]⟩⟩
noncomputable def y245 (P : Params) : Obj := ⟨.none, none, (.func (FuncData.mk z67 z81 (argsOf (inAt 24 9)) (FuncBody.stmts (bodyOf (inAt 24 9))) (scopeOf (inAt 24 9)) 0 [] .none .none .none .none none .none .none 0)), ⟨[]⟩⟩
noncomputable def y246 (P : Params) : Obj := ⟨(.type "code"), none, (.fields ⟨[(.str z67 468), (.str z81 469), (.str z1 470), (.int 134 0), (.int 1 0), (.int 0 0), (.int 0 0), (.int 3 0), (.ref 242), (.bool Bool.true), (.int 181 0), (.ref 243), .none, (.ref 244), (.ref 245), (.ref 246), (.int 472 0), (.int 134 0), (.str z1 473)]⟩), ⟨[]⟩⟩
noncomputable def y247 (P : Params) : Obj := ⟨(.type "function"), none, (.func (FuncData.mk z67 z81 (argsOf (inAt 24 9)) (FuncBody.stmts (bodyOf (inAt 24 9))) (scopeOf (inAt 24 9)) 3 [] .none .none .none (.str z32 312) none (.ref 247) .none 0)), ⟨[]⟩⟩
noncomputable def y248 (P : Params) : Obj := ⟨(.type "tuple"), none, (.seq ⟨[]⟩ 0), ⟨[]⟩⟩
noncomputable def y249 (P : Params) : Obj := ⟨.none, none, (.fields ⟨[]⟩), ⟨[]⟩⟩
noncomputable def y250 (P : Params) : Obj := ⟨(.type "tuple"), none, (.seq ⟨[(.str z53 478), (.str z28 479), (.str z64 480)]⟩ 0), ⟨[]⟩⟩
noncomputable def y251 (P : Params) : Obj := ⟨(.type "tuple"), none, (.seq ⟨[]⟩ 0), ⟨[]⟩⟩
noncomputable def y252 (P : Params) : Obj := ⟨.none, none, (.func (FuncData.mk z68 z82 (argsOf (inAt 24 10)) (FuncBody.stmts (bodyOf (inAt 24 10))) (scopeOf (inAt 24 10)) 0 [] .none .none .none .none none .none .none 0)), ⟨[]⟩⟩
noncomputable def y253 (P : Params) : Obj := ⟨(.type "code"), none, (.fields ⟨[(.str z68 475), (.str z82 476), (.str z1 477), (.int 137 0), (.int 3 0), (.int 0 0), (.int 0 0), (.int 3 0), (.ref 249), (.bool Bool.true), (.int 181 0), (.ref 250), .none, (.ref 251), (.ref 252), (.ref 253), (.int 481 0), (.int 137 0), (.str z1 482)]⟩), ⟨[]⟩⟩
noncomputable def y254 (P : Params) : Obj := ⟨(.type "function"), none, (.func (FuncData.mk z68 z82 (argsOf (inAt 24 10)) (FuncBody.stmts (bodyOf (inAt 24 10))) (scopeOf (inAt 24 10)) 3 [] .none .none .none (.str z32 312) none (.ref 254) .none 0)), ⟨[]⟩⟩
noncomputable def y255 (P : Params) : Obj := ⟨(.type "tuple"), none, (.seq ⟨[(.str z83 484), (.str z84 485), (.str z85 486), (.str z86 487)]⟩ 0), ⟨[]⟩⟩
noncomputable def y256 (P : Params) : Obj := ⟨(.type "dict"), none, (.dict ⟨[⟨(PyData.keyHash P z44), (.str z44 384), (.str z32 312)⟩, ⟨(PyData.keyHash P z46), (.str z46 388), (.int 85 387)⟩, ⟨(PyData.keyHash P z52), (.str z52 397), (.ref 185)⟩, ⟨(PyData.keyHash P z60), (.str z60 407), (.ref 192)⟩, ⟨(PyData.keyHash P z28), (.str z28 415), (.ref 199)⟩, ⟨(PyData.keyHash P z61), (.str z61 427), (.ref 206)⟩, ⟨(PyData.keyHash P z62), (.str z62 436), (.ref 213)⟩, ⟨(PyData.keyHash P z63), (.str z63 444), (.ref 220)⟩, ⟨(PyData.keyHash P z64), (.str z64 452), (.ref 227)⟩, ⟨(PyData.keyHash P z65), (.str z65 460), (.ref 234)⟩, ⟨(PyData.keyHash P z66), (.str z66 467), (.ref 241)⟩, ⟨(PyData.keyHash P z67), (.str z67 474), (.ref 248)⟩, ⟨(PyData.keyHash P z68), (.str z68 483), (.ref 255)⟩, ⟨(PyData.keyHash P z47), (.str z47 488), (.ref 256)⟩, ⟨(PyData.keyHash P z87), (.str z87 490), (.ref 259)⟩, ⟨(PyData.keyHash P z48), (.str z48 492), (.ref 260)⟩, ⟨(PyData.keyHash P z5), (.str z5 493), .none⟩]⟩ 4), ⟨[]⟩⟩
noncomputable def y257 (P : Params) : Obj := ⟨(.type "type"), none, (.cls (ClassData.mk z59 [(.type "object")] [(.ref 258), (.type "object")] 257 z59 Bool.true [] [] Bool.false none Bool.false)), ⟨[none, none, (some (.str z59 377)), (some (.str z59 385)), (some (.builtin "object.__new__")), (some (.bool Bool.true))]⟩⟩
noncomputable def y258 (P : Params) : Obj := ⟨(.type "getset_descriptor"), none, (.fields ⟨[(.str z87 489), (.ref 258), (.builtin "function.__dict__"), (.builtin "function.__dict__#set")]⟩), ⟨[]⟩⟩
noncomputable def y259 (P : Params) : Obj := ⟨(.type "getset_descriptor"), none, (.fields ⟨[(.str z48 491), (.ref 258), (.builtin "ExceptionGroup.__weakref__"), .none]⟩), ⟨[]⟩⟩
noncomputable def y260 (P : Params) : Obj := ⟨(.type "super"), none, (.fields ⟨[(.ref 258), (.ref 258), (.ref 258)]⟩), ⟨[]⟩⟩
noncomputable def y261 (P : Params) : Obj := ⟨(.type "builtin_function_or_method"), none, (.fields ⟨[(.builtin "object.__init_subclass__"), (.ref 258)]⟩), ⟨[]⟩⟩
noncomputable def t4 (P : Params) : BT := (.node (boot_o_0 P) (.node (boot_o_1 P) (.node (y169 P) (.node (boot_o_7 P) (.node (y6 P) (.node (y22 P) (.node (y54 P) (.node (y121 P) (.node (y254 P) .nil .nil) .nil) (.node (y190 P) .nil .nil)) (.node (y86 P) (.node (y156 P) .nil .nil) (.node (y222 P) .nil .nil))) (.node (y38 P) (.node (y70 P) (.node (y140 P) .nil .nil) (.node (y206 P) .nil .nil)) (.node (y105 P) (.node (y174 P) .nil .nil) (.node (y238 P) .nil .nil)))) (.node (y14 P) (.node (y30 P) (.node (y62 P) (.node (y135 P) .nil .nil) (.node (y198 P) .nil .nil)) (.node (y97 P) (.node (y164 P) .nil .nil) (.node (y230 P) .nil .nil))) (.node (y46 P) (.node (y78 P) (.node (y148 P) .nil .nil) (.node (y214 P) .nil .nil)) (.node (y113 P) (.node (y182 P) .nil .nil) (.node (y246 P) .nil .nil))))) (.node (y0 P) (.node (y10 P) (.node (y26 P) (.node (y58 P) (.node (y125 P) (.node (y258 P) .nil .nil) .nil) (.node (y194 P) .nil .nil)) (.node (y93 P) (.node (y160 P) .nil .nil) (.node (y226 P) .nil .nil))) (.node (y42 P) (.node (y74 P) (.node (y144 P) .nil .nil) (.node (y210 P) .nil .nil)) (.node (y109 P) (.node (y178 P) .nil .nil) (.node (y242 P) .nil .nil)))) (.node (y18 P) (.node (y34 P) (.node (y66 P) (.node (y136 P) .nil .nil) (.node (y202 P) .nil .nil)) (.node (y101 P) (.node (y168 P) .nil .nil) (.node (y234 P) .nil .nil))) (.node (y50 P) (.node (y82 P) (.node (y152 P) .nil .nil) (.node (y218 P) .nil .nil)) (.node (y117 P) (.node (y186 P) .nil .nil) (.node (y250 P) .nil .nil)))))) (.node (boot_o_5 P) (.node (boot_o_9 P) (.node (y8 P) (.node (y24 P) (.node (y56 P) (.node (y123 P) (.node (y256 P) .nil .nil) .nil) (.node (y192 P) .nil .nil)) (.node (y91 P) (.node (y158 P) .nil .nil) (.node (y224 P) .nil .nil))) (.node (y40 P) (.node (y72 P) (.node (y142 P) .nil .nil) (.node (y208 P) .nil .nil)) (.node (y107 P) (.node (y176 P) .nil .nil) (.node (y240 P) .nil .nil)))) (.node (y16 P) (.node (y32 P) (.node (y64 P) (.node (y131 P) .nil .nil) (.node (y200 P) .nil .nil)) (.node (y99 P) (.node (y166 P) .nil .nil) (.node (y232 P) .nil .nil))) (.node (y48 P) (.node (y80 P) (.node (y150 P) .nil .nil) (.node (y216 P) .nil .nil)) (.node (y115 P) (.node (y184 P) .nil .nil) (.node (y248 P) .nil .nil))))) (.node (y2 P) (.node (y12 P) (.node (y28 P) (.node (y60 P) (.node (y127 P) (.node (y260 P) .nil .nil) .nil) (.node (y196 P) .nil .nil)) (.node (y95 P) (.node (y162 P) .nil .nil) (.node (y228 P) .nil .nil))) (.node (y44 P) (.node (y76 P) (.node (y146 P) .nil .nil) (.node (y212 P) .nil .nil)) (.node (y111 P) (.node (y180 P) .nil .nil) (.node (y244 P) .nil .nil)))) (.node (y20 P) (.node (y36 P) (.node (y68 P) (.node (y138 P) .nil .nil) (.node (y204 P) .nil .nil)) (.node (y103 P) (.node (y172 P) .nil .nil) (.node (y236 P) .nil .nil))) (.node (y52 P) (.node (y84 P) (.node (y154 P) .nil .nil) (.node (y220 P) .nil .nil)) (.node (y119 P) (.node (y188 P) .nil .nil) (.node (y252 P) .nil .nil))))))) (.node (y88 P) (.node (boot_o_4 P) (.node (boot_o_8 P) (.node (y7 P) (.node (y23 P) (.node (y55 P) (.node (y122 P) (.node (y255 P) .nil .nil) .nil) (.node (y191 P) .nil .nil)) (.node (y87 P) (.node (y157 P) .nil .nil) (.node (y223 P) .nil .nil))) (.node (y39 P) (.node (y71 P) (.node (y141 P) .nil .nil) (.node (y207 P) .nil .nil)) (.node (y106 P) (.node (y175 P) .nil .nil) (.node (y239 P) .nil .nil)))) (.node (y15 P) (.node (y31 P) (.node (y63 P) (.node (y130 P) .nil .nil) (.node (y199 P) .nil .nil)) (.node (y98 P) (.node (y165 P) .nil .nil) (.node (y231 P) .nil .nil))) (.node (y47 P) (.node (y79 P) (.node (y149 P) .nil .nil) (.node (y215 P) .nil .nil)) (.node (y114 P) (.node (y183 P) .nil .nil) (.node (y247 P) .nil .nil))))) (.node (y170 P) (.node (y11 P) (.node (y27 P) (.node (y59 P) (.node (y126 P) (.node (y259 P) .nil .nil) .nil) (.node (y195 P) .nil .nil)) (.node (y94 P) (.node (y161 P) .nil .nil) (.node (y227 P) .nil .nil))) (.node (y43 P) (.node (y75 P) (.node (y145 P) .nil .nil) (.node (y211 P) .nil .nil)) (.node (y110 P) (.node (y179 P) .nil .nil) (.node (y243 P) .nil .nil)))) (.node (y19 P) (.node (y35 P) (.node (y67 P) (.node (y137 P) .nil .nil) (.node (y203 P) .nil .nil)) (.node (y102 P) (.node (y171 P) .nil .nil) (.node (y235 P) .nil .nil))) (.node (y51 P) (.node (y83 P) (.node (y153 P) .nil .nil) (.node (y219 P) .nil .nil)) (.node (y118 P) (.node (y187 P) .nil .nil) (.node (y251 P) .nil .nil)))))) (.node (boot_o_6 P) (.node (boot_o_10 P) (.node (y9 P) (.node (y25 P) (.node (y57 P) (.node (y124 P) (.node (y257 P) .nil .nil) .nil) (.node (y193 P) .nil .nil)) (.node (y92 P) (.node (y159 P) .nil .nil) (.node (y225 P) .nil .nil))) (.node (y41 P) (.node (y73 P) (.node (y143 P) .nil .nil) (.node (y209 P) .nil .nil)) (.node (y108 P) (.node (y177 P) .nil .nil) (.node (y241 P) .nil .nil)))) (.node (y17 P) (.node (y33 P) (.node (y65 P) (.node (y132 P) .nil .nil) (.node (y201 P) .nil .nil)) (.node (y100 P) (.node (y167 P) .nil .nil) (.node (y233 P) .nil .nil))) (.node (y49 P) (.node (y81 P) (.node (y151 P) .nil .nil) (.node (y217 P) .nil .nil)) (.node (y116 P) (.node (y185 P) .nil .nil) (.node (y249 P) .nil .nil))))) (.node (y3 P) (.node (y13 P) (.node (y29 P) (.node (y61 P) (.node (y128 P) (.node (y261 P) .nil .nil) .nil) (.node (y197 P) .nil .nil)) (.node (y96 P) (.node (y163 P) .nil .nil) (.node (y229 P) .nil .nil))) (.node (y45 P) (.node (y77 P) (.node (y147 P) .nil .nil) (.node (y213 P) .nil .nil)) (.node (y112 P) (.node (y181 P) .nil .nil) (.node (y245 P) .nil .nil)))) (.node (y21 P) (.node (y37 P) (.node (y69 P) (.node (y139 P) .nil .nil) (.node (y205 P) .nil .nil)) (.node (y104 P) (.node (y173 P) .nil .nil) (.node (y237 P) .nil .nil))) (.node (y53 P) (.node (y85 P) (.node (y155 P) .nil .nil) (.node (y221 P) .nil .nil)) (.node (y120 P) (.node (y189 P) .nil .nil) (.node (y253 P) .nil .nil))))))))
noncomputable def pos4 : Pos := (Pos.mk 85 0 138 16)
noncomputable def y262 (P : Params) : Obj := ⟨(.type "dict"), none, (.dict ⟨[⟨(PyData.keyHash P z3), (.str z3 165), (.str z88 496)⟩, ⟨(PyData.keyHash P z5), (.str z5 166), .none⟩, ⟨(PyData.keyHash P z6), (.str z6 167), .none⟩, ⟨(PyData.keyHash P z7), (.str z7 168), (.builtin "__main__.__loader__#opaque")⟩, ⟨(PyData.keyHash P z8), (.str z8 169), .none⟩, ⟨(PyData.keyHash P z9), (.str z9 170), (.ref 6)⟩, ⟨(PyData.keyHash P z10), (.str z10 171), (.ref 4)⟩, ⟨(PyData.keyHash P z11), (.str z11 173), (.str z1 172)⟩, ⟨(PyData.keyHash P z12), (.str z12 174), .none⟩, ⟨(PyData.keyHash P z13), (.str z13 193), (.ref 21)⟩, ⟨(PyData.keyHash P z14), (.str z14 197), (.int 1114111 196)⟩, ⟨(PyData.keyHash P z15), (.str z15 204), (.ref 28)⟩, ⟨(PyData.keyHash P z16), (.str z16 211), (.ref 35)⟩, ⟨(PyData.keyHash P z17), (.str z17 218), (.ref 42)⟩, ⟨(PyData.keyHash P z18), (.str z18 225), (.ref 49)⟩, ⟨(PyData.keyHash P z19), (.str z19 232), (.ref 56)⟩, ⟨(PyData.keyHash P z20), (.str z20 239), (.ref 63)⟩, ⟨(PyData.keyHash P z21), (.str z21 246), (.ref 70)⟩, ⟨(PyData.keyHash P z22), (.str z22 253), (.ref 77)⟩, ⟨(PyData.keyHash P z23), (.str z23 259), (.ref 82)⟩, ⟨(PyData.keyHash P z24), (.str z24 267), (.ref 89)⟩, ⟨(PyData.keyHash P z25), (.str z25 275), (.ref 96)⟩, ⟨(PyData.keyHash P z33), (.str z33 282), (.ref 103)⟩, ⟨(PyData.keyHash P z34), (.str z34 292), (.ref 110)⟩, ⟨(PyData.keyHash P z35), (.str z35 301), (.ref 117)⟩, ⟨(PyData.keyHash P z36), (.str z36 311), (.ref 125)⟩, ⟨(PyData.keyHash P z37), (.str z37 333), (.ref 135)⟩, ⟨(PyData.keyHash P z49), (.str z49 364), (.ref 155)⟩, ⟨(PyData.keyHash P z50), (.str z50 370), (.ref 164)⟩, ⟨(PyData.keyHash P z51), (.str z51 376), (.ref 171)⟩, ⟨(PyData.keyHash P z59), (.str z59 495), (.ref 258)⟩, ⟨(PyData.keyHash P z89), (.str z89 500), (.int (-1) 499)⟩, ⟨(PyData.keyHash P z90), (.str z90 503), (.int (-2) 502)⟩, ⟨(PyData.keyHash P z91), (.str z91 505), (.int 10 504)⟩, ⟨(PyData.keyHash P z92), (.str z92 507), (.int 34 506)⟩, ⟨(PyData.keyHash P z93), (.str z93 509), (.int 37 508)⟩, ⟨(PyData.keyHash P z94), (.str z94 511), (.int 39 510)⟩, ⟨(PyData.keyHash P z95), (.str z95 513), (.int 40 512)⟩, ⟨(PyData.keyHash P z96), (.str z96 515), (.int 42 514)⟩, ⟨(PyData.keyHash P z97), (.str z97 517), (.int 46 516)⟩, ⟨(PyData.keyHash P z98), (.str z98 519), (.int 47 518)⟩, ⟨(PyData.keyHash P z99), (.str z99 521), (.int 48 520)⟩, ⟨(PyData.keyHash P z100), (.str z100 523), (.int 92 522)⟩, ⟨(PyData.keyHash P z101), (.str z101 525), (.int 95 524)⟩, ⟨(PyData.keyHash P z102), (.str z102 527), (.int 96 526)⟩, ⟨(PyData.keyHash P z103), (.str z103 529), (.int 98 528)⟩, ⟨(PyData.keyHash P z104), (.str z104 531), (.int 111 530)⟩, ⟨(PyData.keyHash P z105), (.str z105 533), (.int 120 532)⟩, ⟨(PyData.keyHash P z106), (.str z106 542), (.ref 269)⟩, ⟨(PyData.keyHash P z107), (.str z107 549), (.ref 276)⟩]⟩ 50), ⟨[]⟩⟩
noncomputable def y263 (P : Params) : Obj := ⟨.none, none, (.fields ⟨[(.int 1 0), (.int 0 0), (.ref 20), (.int 6 0), (.int 0 0), (.ref 27), (.int 8 0), (.int 0 0), (.ref 34), (.int 10 0), (.int 0 0), (.ref 41), (.int 12 0), (.int 0 0), (.ref 48), (.int 14 0), (.int 0 0), (.ref 55), (.int 16 0), (.int 0 0), (.ref 62), (.int 18 0), (.int 0 0), (.ref 69), (.int 20 0), (.int 0 0), (.ref 76), (.int 28 0), (.int 0 0), (.ref 81), (.int 30 0), (.int 0 0), (.ref 88), (.int 37 0), (.int 0 0), (.ref 95), (.int 44 0), (.int 0 0), (.ref 102), (.int 51 0), (.int 0 0), (.ref 109), (.int 60 0), (.int 0 0), (.ref 116), (.int 66 0), (.int 0 0), (.ref 124), (.int 72 0), (.int 0 0), (.ref 131), (.int 74 0), (.int 0 0), (.ref 144), (.int 81 0), (.int 0 0), (.ref 163), (.int 83 0), (.int 0 0), (.ref 170), (.int 85 0), (.int 0 0), (.ref 177), (.int 157 0), (.int 0 0), (.ref 268), (.int 165 0), (.int 0 0), (.ref 275)]⟩), ⟨[]⟩⟩
noncomputable def y264 (P : Params) : Obj := ⟨(.type "tuple"), none, (.seq ⟨[]⟩ 0), ⟨[]⟩⟩
noncomputable def y265 (P : Params) : Obj := ⟨.none, none, (.fields ⟨[]⟩), ⟨[]⟩⟩
noncomputable def y266 (P : Params) : Obj := ⟨(.type "tuple"), none, (.seq ⟨[(.str z27 537), (.str z29 538), (.str z108 539)]⟩ 0), ⟨[]⟩⟩
noncomputable def y267 (P : Params) : Obj := ⟨(.type "tuple"), none, (.seq ⟨[]⟩ 0), ⟨[]⟩⟩
noncomputable def y268 (P : Params) : Obj := ⟨.none, none, (.func (FuncData.mk z106 z106 (argsOf (stAt 43)) (FuncBody.stmts (bodyOf (stAt 43))) (scopeOf (stAt 43)) 0 [] .none .none .none .none none .none .none 0)), ⟨[]⟩⟩
noncomputable def y269 (P : Params) : Obj := ⟨(.type "code"), none, (.fields ⟨[(.str z106 534), (.str z106 535), (.str z1 536), (.int 157 0), (.int 1 0), (.int 0 0), (.int 0 0), (.int 3 0), (.ref 263), (.bool Bool.true), (.int 181 0), (.ref 264), .none, (.ref 265), (.ref 266), (.ref 267), (.int 540 0), (.int 157 0), (.str z1 541)]⟩), ⟨[]⟩⟩
noncomputable def y270 (P : Params) : Obj := ⟨(.type "function"), none, (.func (FuncData.mk z106 z106 (argsOf (stAt 43)) (FuncBody.stmts (bodyOf (stAt 43))) (scopeOf (stAt 43)) 3 [] .none .none .none (.str z88 496) none (.ref 268) .none 0)), ⟨[]⟩⟩
noncomputable def y271 (P : Params) : Obj := ⟨(.type "tuple"), none, (.seq ⟨[]⟩ 0), ⟨[]⟩⟩
noncomputable def y272 (P : Params) : Obj := ⟨.none, none, (.fields ⟨[]⟩), ⟨[]⟩⟩
noncomputable def y273 (P : Params) : Obj := ⟨(.type "tuple"), none, (.seq ⟨[(.str z27 546)]⟩ 0), ⟨[]⟩⟩
noncomputable def y274 (P : Params) : Obj := ⟨(.type "tuple"), none, (.seq ⟨[]⟩ 0), ⟨[]⟩⟩
noncomputable def y275 (P : Params) : Obj := ⟨.none, none, (.func (FuncData.mk z107 z107 (argsOf (stAt 44)) (FuncBody.stmts (bodyOf (stAt 44))) (scopeOf (stAt 44)) 0 [] .none .none .none .none none .none .none 0)), ⟨[]⟩⟩
noncomputable def y276 (P : Params) : Obj := ⟨(.type "code"), none, (.fields ⟨[(.str z107 543), (.str z107 544), (.str z1 545), (.int 165 0), (.int 1 0), (.int 0 0), (.int 0 0), (.int 3 0), (.ref 270), (.bool Bool.true), (.int 181 0), (.ref 271), .none, (.ref 272), (.ref 273), (.ref 274), (.int 547 0), (.int 165 0), (.str z1 548)]⟩), ⟨[]⟩⟩
noncomputable def y277 (P : Params) : Obj := ⟨(.type "function"), none, (.func (FuncData.mk z107 z107 (argsOf (stAt 44)) (FuncBody.stmts (bodyOf (stAt 44))) (scopeOf (stAt 44)) 3 [] .none .none .none (.str z88 496) none (.ref 275) .none 0)), ⟨[]⟩⟩
noncomputable def t5 (P : Params) : BT := (.node (boot_o_0 P) (.node (boot_o_1 P) (.node (y262 P) (.node (boot_o_7 P) (.node (y6 P) (.node (y22 P) (.node (y54 P) (.node (y121 P) (.node (y254 P) .nil .nil) .nil) (.node (y190 P) .nil .nil)) (.node (y86 P) (.node (y156 P) .nil .nil) (.node (y222 P) .nil .nil))) (.node (y38 P) (.node (y70 P) (.node (y140 P) (.node (y272 P) .nil .nil) .nil) (.node (y206 P) .nil .nil)) (.node (y105 P) (.node (y174 P) .nil .nil) (.node (y238 P) .nil .nil)))) (.node (y14 P) (.node (y30 P) (.node (y62 P) (.node (y135 P) (.node (y264 P) .nil .nil) .nil) (.node (y198 P) .nil .nil)) (.node (y97 P) (.node (y164 P) .nil .nil) (.node (y230 P) .nil .nil))) (.node (y46 P) (.node (y78 P) (.node (y148 P) .nil .nil) (.node (y214 P) .nil .nil)) (.node (y113 P) (.node (y182 P) .nil .nil) (.node (y246 P) .nil .nil))))) (.node (y0 P) (.node (y10 P) (.node (y26 P) (.node (y58 P) (.node (y125 P) (.node (y258 P) .nil .nil) .nil) (.node (y194 P) .nil .nil)) (.node (y93 P) (.node (y160 P) .nil .nil) (.node (y226 P) .nil .nil))) (.node (y42 P) (.node (y74 P) (.node (y144 P) (.node (y276 P) .nil .nil) .nil) (.node (y210 P) .nil .nil)) (.node (y109 P) (.node (y178 P) .nil .nil) (.node (y242 P) .nil .nil)))) (.node (y18 P) (.node (y34 P) (.node (y66 P) (.node (y136 P) (.node (y268 P) .nil .nil) .nil) (.node (y202 P) .nil .nil)) (.node (y101 P) (.node (y168 P) .nil .nil) (.node (y234 P) .nil .nil))) (.node (y50 P) (.node (y82 P) (.node (y152 P) .nil .nil) (.node (y218 P) .nil .nil)) (.node (y117 P) (.node (y186 P) .nil .nil) (.node (y250 P) .nil .nil)))))) (.node (boot_o_5 P) (.node (boot_o_9 P) (.node (y8 P) (.node (y24 P) (.node (y56 P) (.node (y123 P) (.node (y256 P) .nil .nil) .nil) (.node (y192 P) .nil .nil)) (.node (y91 P) (.node (y158 P) .nil .nil) (.node (y224 P) .nil .nil))) (.node (y40 P) (.node (y72 P) (.node (y142 P) (.node (y274 P) .nil .nil) .nil) (.node (y208 P) .nil .nil)) (.node (y107 P) (.node (y176 P) .nil .nil) (.node (y240 P) .nil .nil)))) (.node (y16 P) (.node (y32 P) (.node (y64 P) (.node (y131 P) (.node (y266 P) .nil .nil) .nil) (.node (y200 P) .nil .nil)) (.node (y99 P) (.node (y166 P) .nil .nil) (.node (y232 P) .nil .nil))) (.node (y48 P) (.node (y80 P) (.node (y150 P) .nil .nil) (.node (y216 P) .nil .nil)) (.node (y115 P) (.node (y184 P) .nil .nil) (.node (y248 P) .nil .nil))))) (.node (y2 P) (.node (y12 P) (.node (y28 P) (.node (y60 P) (.node (y127 P) (.node (y260 P) .nil .nil) .nil) (.node (y196 P) .nil .nil)) (.node (y95 P) (.node (y162 P) .nil .nil) (.node (y228 P) .nil .nil))) (.node (y44 P) (.node (y76 P) (.node (y146 P) .nil .nil) (.node (y212 P) .nil .nil)) (.node (y111 P) (.node (y180 P) .nil .nil) (.node (y244 P) .nil .nil)))) (.node (y20 P) (.node (y36 P) (.node (y68 P) (.node (y138 P) (.node (y270 P) .nil .nil) .nil) (.node (y204 P) .nil .nil)) (.node (y103 P) (.node (y172 P) .nil .nil) (.node (y236 P) .nil .nil))) (.node (y52 P) (.node (y84 P) (.node (y154 P) .nil .nil) (.node (y220 P) .nil .nil)) (.node (y119 P) (.node (y188 P) .nil .nil) (.node (y252 P) .nil .nil))))))) (.node (y88 P) (.node (boot_o_4 P) (.node (boot_o_8 P) (.node (y7 P) (.node (y23 P) (.node (y55 P) (.node (y122 P) (.node (y255 P) .nil .nil) .nil) (.node (y191 P) .nil .nil)) (.node (y87 P) (.node (y157 P) .nil .nil) (.node (y223 P) .nil .nil))) (.node (y39 P) (.node (y71 P) (.node (y141 P) (.node (y273 P) .nil .nil) .nil) (.node (y207 P) .nil .nil)) (.node (y106 P) (.node (y175 P) .nil .nil) (.node (y239 P) .nil .nil)))) (.node (y15 P) (.node (y31 P) (.node (y63 P) (.node (y130 P) (.node (y265 P) .nil .nil) .nil) (.node (y199 P) .nil .nil)) (.node (y98 P) (.node (y165 P) .nil .nil) (.node (y231 P) .nil .nil))) (.node (y47 P) (.node (y79 P) (.node (y149 P) .nil .nil) (.node (y215 P) .nil .nil)) (.node (y114 P) (.node (y183 P) .nil .nil) (.node (y247 P) .nil .nil))))) (.node (y263 P) (.node (y11 P) (.node (y27 P) (.node (y59 P) (.node (y126 P) (.node (y259 P) .nil .nil) .nil) (.node (y195 P) .nil .nil)) (.node (y94 P) (.node (y161 P) .nil .nil) (.node (y227 P) .nil .nil))) (.node (y43 P) (.node (y75 P) (.node (y145 P) (.node (y277 P) .nil .nil) .nil) (.node (y211 P) .nil .nil)) (.node (y110 P) (.node (y179 P) .nil .nil) (.node (y243 P) .nil .nil)))) (.node (y19 P) (.node (y35 P) (.node (y67 P) (.node (y137 P) (.node (y269 P) .nil .nil) .nil) (.node (y203 P) .nil .nil)) (.node (y102 P) (.node (y171 P) .nil .nil) (.node (y235 P) .nil .nil))) (.node (y51 P) (.node (y83 P) (.node (y153 P) .nil .nil) (.node (y219 P) .nil .nil)) (.node (y118 P) (.node (y187 P) .nil .nil) (.node (y251 P) .nil .nil)))))) (.node (boot_o_6 P) (.node (boot_o_10 P) (.node (y9 P) (.node (y25 P) (.node (y57 P) (.node (y124 P) (.node (y257 P) .nil .nil) .nil) (.node (y193 P) .nil .nil)) (.node (y92 P) (.node (y159 P) .nil .nil) (.node (y225 P) .nil .nil))) (.node (y41 P) (.node (y73 P) (.node (y143 P) (.node (y275 P) .nil .nil) .nil) (.node (y209 P) .nil .nil)) (.node (y108 P) (.node (y177 P) .nil .nil) (.node (y241 P) .nil .nil)))) (.node (y17 P) (.node (y33 P) (.node (y65 P) (.node (y132 P) (.node (y267 P) .nil .nil) .nil) (.node (y201 P) .nil .nil)) (.node (y100 P) (.node (y167 P) .nil .nil) (.node (y233 P) .nil .nil))) (.node (y49 P) (.node (y81 P) (.node (y151 P) .nil .nil) (.node (y217 P) .nil .nil)) (.node (y116 P) (.node (y185 P) .nil .nil) (.node (y249 P) .nil .nil))))) (.node (y3 P) (.node (y13 P) (.node (y29 P) (.node (y61 P) (.node (y128 P) (.node (y261 P) .nil .nil) .nil) (.node (y197 P) .nil .nil)) (.node (y96 P) (.node (y163 P) .nil .nil) (.node (y229 P) .nil .nil))) (.node (y45 P) (.node (y77 P) (.node (y147 P) .nil .nil) (.node (y213 P) .nil .nil)) (.node (y112 P) (.node (y181 P) .nil .nil) (.node (y245 P) .nil .nil)))) (.node (y21 P) (.node (y37 P) (.node (y69 P) (.node (y139 P) (.node (y271 P) .nil .nil) .nil) (.node (y205 P) .nil .nil)) (.node (y104 P) (.node (y173 P) .nil .nil) (.node (y237 P) .nil .nil))) (.node (y53 P) (.node (y85 P) (.node (y155 P) .nil .nil) (.node (y221 P) .nil .nil)) (.node (y120 P) (.node (y189 P) .nil .nil) (.node (y253 P) .nil .nil))))))))
noncomputable def pos5 : Pos := (Pos.mk 165 0 172 12)
noncomputable def y278 (P : Params) : Obj := ⟨(.type "dict"), none, (.dict ⟨[⟨(PyData.keyHash P z3), (.str z3 165), (.str z88 496)⟩, ⟨(PyData.keyHash P z5), (.str z5 166), .none⟩, ⟨(PyData.keyHash P z6), (.str z6 167), .none⟩, ⟨(PyData.keyHash P z7), (.str z7 168), (.builtin "__main__.__loader__#opaque")⟩, ⟨(PyData.keyHash P z8), (.str z8 169), .none⟩, ⟨(PyData.keyHash P z9), (.str z9 170), (.ref 6)⟩, ⟨(PyData.keyHash P z10), (.str z10 171), (.ref 4)⟩, ⟨(PyData.keyHash P z11), (.str z11 173), (.str z1 172)⟩, ⟨(PyData.keyHash P z12), (.str z12 174), .none⟩, ⟨(PyData.keyHash P z13), (.str z13 193), (.ref 21)⟩, ⟨(PyData.keyHash P z14), (.str z14 197), (.int 1114111 196)⟩, ⟨(PyData.keyHash P z15), (.str z15 204), (.ref 28)⟩, ⟨(PyData.keyHash P z16), (.str z16 211), (.ref 35)⟩, ⟨(PyData.keyHash P z17), (.str z17 218), (.ref 42)⟩, ⟨(PyData.keyHash P z18), (.str z18 225), (.ref 49)⟩, ⟨(PyData.keyHash P z19), (.str z19 232), (.ref 56)⟩, ⟨(PyData.keyHash P z20), (.str z20 239), (.ref 63)⟩, ⟨(PyData.keyHash P z21), (.str z21 246), (.ref 70)⟩, ⟨(PyData.keyHash P z22), (.str z22 253), (.ref 77)⟩, ⟨(PyData.keyHash P z23), (.str z23 259), (.ref 82)⟩, ⟨(PyData.keyHash P z24), (.str z24 267), (.ref 89)⟩, ⟨(PyData.keyHash P z25), (.str z25 275), (.ref 96)⟩, ⟨(PyData.keyHash P z33), (.str z33 282), (.ref 103)⟩, ⟨(PyData.keyHash P z34), (.str z34 292), (.ref 110)⟩, ⟨(PyData.keyHash P z35), (.str z35 301), (.ref 117)⟩, ⟨(PyData.keyHash P z36), (.str z36 311), (.ref 125)⟩, ⟨(PyData.keyHash P z37), (.str z37 333), (.ref 135)⟩, ⟨(PyData.keyHash P z49), (.str z49 364), (.ref 155)⟩, ⟨(PyData.keyHash P z50), (.str z50 370), (.ref 164)⟩, ⟨(PyData.keyHash P z51), (.str z51 376), (.ref 171)⟩, ⟨(PyData.keyHash P z59), (.str z59 495), (.ref 258)⟩, ⟨(PyData.keyHash P z89), (.str z89 500), (.int (-1) 499)⟩, ⟨(PyData.keyHash P z90), (.str z90 503), (.int (-2) 502)⟩, ⟨(PyData.keyHash P z91), (.str z91 505), (.int 10 504)⟩, ⟨(PyData.keyHash P z92), (.str z92 507), (.int 34 506)⟩, ⟨(PyData.keyHash P z93), (.str z93 509), (.int 37 508)⟩, ⟨(PyData.keyHash P z94), (.str z94 511), (.int 39 510)⟩, ⟨(PyData.keyHash P z95), (.str z95 513), (.int 40 512)⟩, ⟨(PyData.keyHash P z96), (.str z96 515), (.int 42 514)⟩, ⟨(PyData.keyHash P z97), (.str z97 517), (.int 46 516)⟩, ⟨(PyData.keyHash P z98), (.str z98 519), (.int 47 518)⟩, ⟨(PyData.keyHash P z99), (.str z99 521), (.int 48 520)⟩, ⟨(PyData.keyHash P z100), (.str z100 523), (.int 92 522)⟩, ⟨(PyData.keyHash P z101), (.str z101 525), (.int 95 524)⟩, ⟨(PyData.keyHash P z102), (.str z102 527), (.int 96 526)⟩, ⟨(PyData.keyHash P z103), (.str z103 529), (.int 98 528)⟩, ⟨(PyData.keyHash P z104), (.str z104 531), (.int 111 530)⟩, ⟨(PyData.keyHash P z105), (.str z105 533), (.int 120 532)⟩, ⟨(PyData.keyHash P z106), (.str z106 542), (.ref 269)⟩, ⟨(PyData.keyHash P z107), (.str z107 549), (.ref 276)⟩, ⟨(PyData.keyHash P z109), (.str z109 753), (.ref 413)⟩]⟩ 51), ⟨[]⟩⟩
noncomputable def y279 (P : Params) : Obj := ⟨.none, none, (.fields ⟨[(.int 1 0), (.int 0 0), (.ref 20), (.int 6 0), (.int 0 0), (.ref 27), (.int 8 0), (.int 0 0), (.ref 34), (.int 10 0), (.int 0 0), (.ref 41), (.int 12 0), (.int 0 0), (.ref 48), (.int 14 0), (.int 0 0), (.ref 55), (.int 16 0), (.int 0 0), (.ref 62), (.int 18 0), (.int 0 0), (.ref 69), (.int 20 0), (.int 0 0), (.ref 76), (.int 28 0), (.int 0 0), (.ref 81), (.int 30 0), (.int 0 0), (.ref 88), (.int 37 0), (.int 0 0), (.ref 95), (.int 44 0), (.int 0 0), (.ref 102), (.int 51 0), (.int 0 0), (.ref 109), (.int 60 0), (.int 0 0), (.ref 116), (.int 66 0), (.int 0 0), (.ref 124), (.int 72 0), (.int 0 0), (.ref 131), (.int 74 0), (.int 0 0), (.ref 144), (.int 81 0), (.int 0 0), (.ref 163), (.int 83 0), (.int 0 0), (.ref 170), (.int 85 0), (.int 0 0), (.ref 177), (.int 157 0), (.int 0 0), (.ref 268), (.int 165 0), (.int 0 0), (.ref 275), (.int 173 0), (.int 0 0), (.ref 282)]⟩), ⟨[]⟩⟩
noncomputable def y280 (P : Params) : Obj := ⟨(.type "tuple"), none, (.seq ⟨[]⟩ 0), ⟨[]⟩⟩
noncomputable def y281 (P : Params) : Obj := ⟨(.type "builtin_function_or_method"), none, (.fields ⟨[(.builtin "type.__prepare__"), (.type "type")]⟩), ⟨[]⟩⟩
noncomputable def y282 (P : Params) : Obj := ⟨(.type "dict"), none, (.dict ⟨[⟨(PyData.keyHash P z44), (.str z44 557), (.str z88 496)⟩, ⟨(PyData.keyHash P z45), (.str z45 559), (.str z109 558)⟩, ⟨(PyData.keyHash P z46), (.str z46 561), (.int 173 560)⟩, ⟨(PyData.keyHash P z52), (.str z52 571), (.ref 291)⟩, ⟨(PyData.keyHash P z110), (.str z110 580), (.ref 298)⟩, ⟨(PyData.keyHash P z108), (.str z108 591), (.ref 305)⟩, ⟨(PyData.keyHash P z111), (.str z111 602), (.ref 312)⟩, ⟨(PyData.keyHash P z112), (.str z112 613), (.ref 319)⟩, ⟨(PyData.keyHash P z113), (.str z113 620), (.ref 326)⟩, ⟨(PyData.keyHash P z114), (.str z114 628), (.ref 333)⟩, ⟨(PyData.keyHash P z115), (.str z115 636), (.ref 340)⟩, ⟨(PyData.keyHash P z116), (.str z116 645), (.ref 347)⟩, ⟨(PyData.keyHash P z117), (.str z117 654), (.ref 354)⟩, ⟨(PyData.keyHash P z118), (.str z118 663), (.ref 361)⟩, ⟨(PyData.keyHash P z119), (.str z119 672), (.ref 368)⟩, ⟨(PyData.keyHash P z120), (.str z120 684), (.ref 375)⟩, ⟨(PyData.keyHash P z38), (.str z38 695), (.ref 382)⟩, ⟨(PyData.keyHash P z121), (.str z121 705), (.ref 389)⟩, ⟨(PyData.keyHash P z43), (.str z43 718), (.ref 396)⟩, ⟨(PyData.keyHash P z122), (.str z122 732), (.ref 403)⟩, ⟨(PyData.keyHash P z123), (.str z123 742), (.ref 410)⟩, ⟨(PyData.keyHash P z47), (.str z47 746), (.ref 411)⟩]⟩ 22), ⟨[]⟩⟩
noncomputable def y283 (P : Params) : Obj := ⟨(.type "tuple"), none, (.seq ⟨[]⟩ 0), ⟨[]⟩⟩
noncomputable def y284 (P : Params) : Obj := ⟨.none, none, (.fields ⟨[(.int 175 0), (.int 4 0), (.ref 290), (.int 180 0), (.int 4 0), (.ref 297), (.int 188 0), (.int 4 0), (.ref 304), (.int 201 0), (.int 4 0), (.ref 311), (.int 205 0), (.int 4 0), (.ref 318), (.int 239 0), (.int 4 0), (.ref 325), (.int 242 0), (.int 4 0), (.ref 332), (.int 254 0), (.int 4 0), (.ref 339), (.int 261 0), (.int 4 0), (.ref 346), (.int 273 0), (.int 4 0), (.ref 353), (.int 280 0), (.int 4 0), (.ref 360), (.int 290 0), (.int 4 0), (.ref 367), (.int 294 0), (.int 4 0), (.ref 374), (.int 309 0), (.int 4 0), (.ref 381), (.int 319 0), (.int 4 0), (.ref 388), (.int 340 0), (.int 4 0), (.ref 395), (.int 369 0), (.int 4 0), (.ref 402), (.int 394 0), (.int 4 0), (.ref 409)]⟩), ⟨[]⟩⟩
noncomputable def y285 (P : Params) : Obj := ⟨(.type "code"), none, (.fields ⟨[(.str z109 552), (.str z109 553), (.str z1 554), (.int 173 0), (.int 0 0), (.int 0 0), (.int 0 0), (.int 0 0), (.ref 280), (.bool Bool.false), (.int 181 0), (.ref 281), .none, .none, .none, .none, (.int 555 0), (.int 173 0), (.str z1 556)]⟩), ⟨[]⟩⟩
noncomputable def y286 (P : Params) : Obj := ⟨(.type "frame"), none, .plain, ⟨[(some (.ref 282)), (some (.ref 3)), (some (.ref 279)), none, (some (.str z88 496)), none, (some (.ref 0))]⟩⟩
noncomputable def y287 (P : Params) : Obj := ⟨(.type "tuple"), none, (.seq ⟨[(.int 0 562)]⟩ 0), ⟨[]⟩⟩
noncomputable def y288 (P : Params) : Obj := ⟨(.type "tuple"), none, (.seq ⟨[]⟩ 0), ⟨[]⟩⟩
noncomputable def y289 (P : Params) : Obj := ⟨.none, none, (.fields ⟨[]⟩), ⟨[]⟩⟩
noncomputable def y290 (P : Params) : Obj := ⟨(.type "tuple"), none, (.seq ⟨[(.str z53 566), (.str z124 567), (.str z55 568)]⟩ 0), ⟨[]⟩⟩
noncomputable def y291 (P : Params) : Obj := ⟨(.type "tuple"), none, (.seq ⟨[]⟩ 0), ⟨[]⟩⟩
noncomputable def y292 (P : Params) : Obj := ⟨.none, none, (.func (FuncData.mk z52 z125 (argsOf (inAt 45 0)) (FuncBody.stmts (bodyOf (inAt 45 0))) (scopeOf (inAt 45 0)) 0 [] .none .none .none .none none .none .none 0)), ⟨[]⟩⟩
noncomputable def y293 (P : Params) : Obj := ⟨(.type "code"), none, (.fields ⟨[(.str z52 563), (.str z125 564), (.str z1 565), (.int 175 0), (.int 3 0), (.int 0 0), (.int 0 0), (.int 3 0), (.ref 285), (.bool Bool.true), (.int 181 0), (.ref 286), .none, (.ref 287), (.ref 288), (.ref 289), (.int 569 0), (.int 175 0), (.str z1 570)]⟩), ⟨[]⟩⟩
noncomputable def y294 (P : Params) : Obj := ⟨(.type "function"), none, (.func (FuncData.mk z52 z125 (argsOf (inAt 45 0)) (FuncBody.stmts (bodyOf (inAt 45 0))) (scopeOf (inAt 45 0)) 3 [] (.ref 284) .none .none (.str z88 496) none (.ref 290) .none 0)), ⟨[]⟩⟩
noncomputable def y295 (P : Params) : Obj := ⟨(.type "tuple"), none, (.seq ⟨[]⟩ 0), ⟨[]⟩⟩
noncomputable def y296 (P : Params) : Obj := ⟨.none, none, (.fields ⟨[]⟩), ⟨[]⟩⟩
noncomputable def y297 (P : Params) : Obj := ⟨(.type "tuple"), none, (.seq ⟨[(.str z53 575), (.str z126 576), (.str z27 577)]⟩ 0), ⟨[]⟩⟩
noncomputable def y298 (P : Params) : Obj := ⟨(.type "tuple"), none, (.seq ⟨[]⟩ 0), ⟨[]⟩⟩
noncomputable def y299 (P : Params) : Obj := ⟨.none, none, (.func (FuncData.mk z110 z127 (argsOf (inAt 45 1)) (FuncBody.stmts (bodyOf (inAt 45 1))) (scopeOf (inAt 45 1)) 0 [] .none .none .none .none none .none .none 0)), ⟨[]⟩⟩
noncomputable def y300 (P : Params) : Obj := ⟨(.type "code"), none, (.fields ⟨[(.str z110 572), (.str z127 573), (.str z1 574), (.int 180 0), (.int 2 0), (.int 0 0), (.int 0 0), (.int 3 0), (.ref 292), (.bool Bool.true), (.int 181 0), (.ref 293), .none, (.ref 294), (.ref 295), (.ref 296), (.int 578 0), (.int 180 0), (.str z1 579)]⟩), ⟨[]⟩⟩
noncomputable def y301 (P : Params) : Obj := ⟨(.type "function"), none, (.func (FuncData.mk z110 z127 (argsOf (inAt 45 1)) (FuncBody.stmts (bodyOf (inAt 45 1))) (scopeOf (inAt 45 1)) 3 [] .none .none .none (.str z88 496) none (.ref 297) .none 0)), ⟨[]⟩⟩
noncomputable def y302 (P : Params) : Obj := ⟨(.type "tuple"), none, (.seq ⟨[]⟩ 0), ⟨[]⟩⟩
noncomputable def y303 (P : Params) : Obj := ⟨.none, none, (.fields ⟨[]⟩), ⟨[]⟩⟩
noncomputable def y304 (P : Params) : Obj := ⟨(.type "tuple"), none, (.seq ⟨[(.str z53 584), (.str z55 585), (.str z56 586), (.str z57 587), (.str z126 588)]⟩ 0), ⟨[]⟩⟩
noncomputable def y305 (P : Params) : Obj := ⟨(.type "tuple"), none, (.seq ⟨[]⟩ 0), ⟨[]⟩⟩
noncomputable def y306 (P : Params) : Obj := ⟨.none, none, (.func (FuncData.mk z108 z128 (argsOf (inAt 45 2)) (FuncBody.stmts (bodyOf (inAt 45 2))) (scopeOf (inAt 45 2)) 0 [] .none .none .none .none none .none .none 0)), ⟨[]⟩⟩
noncomputable def y307 (P : Params) : Obj := ⟨(.type "code"), none, (.fields ⟨[(.str z108 581), (.str z128 582), (.str z1 583), (.int 188 0), (.int 2 0), (.int 0 0), (.int 0 0), (.int 3 0), (.ref 299), (.bool Bool.true), (.int 181 0), (.ref 300), .none, (.ref 301), (.ref 302), (.ref 303), (.int 589 0), (.int 188 0), (.str z1 590)]⟩), ⟨[]⟩⟩
noncomputable def y308 (P : Params) : Obj := ⟨(.type "function"), none, (.func (FuncData.mk z108 z128 (argsOf (inAt 45 2)) (FuncBody.stmts (bodyOf (inAt 45 2))) (scopeOf (inAt 45 2)) 3 [] .none .none .none (.str z88 496) none (.ref 304) .none 0)), ⟨[]⟩⟩
noncomputable def y309 (P : Params) : Obj := ⟨(.type "tuple"), none, (.seq ⟨[]⟩ 0), ⟨[]⟩⟩
noncomputable def y310 (P : Params) : Obj := ⟨.none, none, (.fields ⟨[]⟩), ⟨[]⟩⟩
noncomputable def y311 (P : Params) : Obj := ⟨(.type "tuple"), none, (.seq ⟨[(.str z53 595), (.str z54 596), (.str z55 597), (.str z56 598), (.str z57 599)]⟩ 0), ⟨[]⟩⟩
noncomputable def y312 (P : Params) : Obj := ⟨(.type "tuple"), none, (.seq ⟨[]⟩ 0), ⟨[]⟩⟩
noncomputable def y313 (P : Params) : Obj := ⟨.none, none, (.func (FuncData.mk z111 z129 (argsOf (inAt 45 3)) (FuncBody.stmts (bodyOf (inAt 45 3))) (scopeOf (inAt 45 3)) 0 [] .none .none .none .none none .none .none 0)), ⟨[]⟩⟩
noncomputable def y314 (P : Params) : Obj := ⟨(.type "code"), none, (.fields ⟨[(.str z111 592), (.str z129 593), (.str z1 594), (.int 201 0), (.int 3 0), (.int 0 0), (.int 0 0), (.int 3 0), (.ref 306), (.bool Bool.true), (.int 181 0), (.ref 307), .none, (.ref 308), (.ref 309), (.ref 310), (.int 600 0), (.int 201 0), (.str z1 601)]⟩), ⟨[]⟩⟩
noncomputable def y315 (P : Params) : Obj := ⟨(.type "function"), none, (.func (FuncData.mk z111 z129 (argsOf (inAt 45 3)) (FuncBody.stmts (bodyOf (inAt 45 3))) (scopeOf (inAt 45 3)) 3 [] .none .none .none (.str z88 496) none (.ref 311) .none 0)), ⟨[]⟩⟩
noncomputable def y316 (P : Params) : Obj := ⟨(.type "tuple"), none, (.seq ⟨[]⟩ 0), ⟨[]⟩⟩
noncomputable def y317 (P : Params) : Obj := ⟨.none, none, (.fields ⟨[]⟩), ⟨[]⟩⟩
noncomputable def y318 (P : Params) : Obj := ⟨(.type "tuple"), none, (.seq ⟨[(.str z53 606), (.str z130 607), (.str z55 608), (.str z27 609), (.str z29 610)]⟩ 0), ⟨[]⟩⟩
noncomputable def y319 (P : Params) : Obj := ⟨(.type "tuple"), none, (.seq ⟨[]⟩ 0), ⟨[]⟩⟩
noncomputable def y320 (P : Params) : Obj := ⟨.none, none, (.func (FuncData.mk z112 z131 (argsOf (inAt 45 4)) (FuncBody.stmts (bodyOf (inAt 45 4))) (scopeOf (inAt 45 4)) 0 [] .none .none .none .none none .none .none 0)), ⟨[]⟩⟩
noncomputable def y321 (P : Params) : Obj := ⟨(.type "code"), none, (.fields ⟨[(.str z112 603), (.str z131 604), (.str z1 605), (.int 205 0), (.int 1 0), (.int 0 0), (.int 0 0), (.int 3 0), (.ref 313), (.bool Bool.true), (.int 181 0), (.ref 314), .none, (.ref 315), (.ref 316), (.ref 317), (.int 611 0), (.int 205 0), (.str z1 612)]⟩), ⟨[]⟩⟩
noncomputable def y322 (P : Params) : Obj := ⟨(.type "function"), none, (.func (FuncData.mk z112 z131 (argsOf (inAt 45 4)) (FuncBody.stmts (bodyOf (inAt 45 4))) (scopeOf (inAt 45 4)) 3 [] .none .none .none (.str z88 496) none (.ref 318) .none 0)), ⟨[]⟩⟩
noncomputable def y323 (P : Params) : Obj := ⟨(.type "tuple"), none, (.seq ⟨[]⟩ 0), ⟨[]⟩⟩
noncomputable def y324 (P : Params) : Obj := ⟨.none, none, (.fields ⟨[]⟩), ⟨[]⟩⟩
noncomputable def y325 (P : Params) : Obj := ⟨(.type "tuple"), none, (.seq ⟨[(.str z53 617)]⟩ 0), ⟨[]⟩⟩
noncomputable def y326 (P : Params) : Obj := ⟨(.type "tuple"), none, (.seq ⟨[]⟩ 0), ⟨[]⟩⟩
noncomputable def y327 (P : Params) : Obj := ⟨.none, none, (.func (FuncData.mk z113 z132 (argsOf (inAt 45 5)) (FuncBody.stmts (bodyOf (inAt 45 5))) (scopeOf (inAt 24 9)) 0 [] .none .none .none .none none .none .none 0)), ⟨[]⟩⟩
noncomputable def y328 (P : Params) : Obj := ⟨(.type "code"), none, (.fields ⟨[(.str z113 614), (.str z132 615), (.str z1 616), (.int 239 0), (.int 1 0), (.int 0 0), (.int 0 0), (.int 3 0), (.ref 320), (.bool Bool.true), (.int 181 0), (.ref 321), .none, (.ref 322), (.ref 323), (.ref 324), (.int 618 0), (.int 239 0), (.str z1 619)]⟩), ⟨[]⟩⟩
noncomputable def y329 (P : Params) : Obj := ⟨(.type "function"), none, (.func (FuncData.mk z113 z132 (argsOf (inAt 45 5)) (FuncBody.stmts (bodyOf (inAt 45 5))) (scopeOf (inAt 24 9)) 3 [] .none .none .none (.str z88 496) none (.ref 325) .none 0)), ⟨[]⟩⟩
noncomputable def y330 (P : Params) : Obj := ⟨(.type "tuple"), none, (.seq ⟨[]⟩ 0), ⟨[]⟩⟩
noncomputable def y331 (P : Params) : Obj := ⟨.none, none, (.fields ⟨[]⟩), ⟨[]⟩⟩
noncomputable def y332 (P : Params) : Obj := ⟨(.type "tuple"), none, (.seq ⟨[(.str z53 624), (.str z27 625)]⟩ 0), ⟨[]⟩⟩
noncomputable def y333 (P : Params) : Obj := ⟨(.type "tuple"), none, (.seq ⟨[]⟩ 0), ⟨[]⟩⟩
noncomputable def y334 (P : Params) : Obj := ⟨.none, none, (.func (FuncData.mk z114 z133 (argsOf (inAt 45 6)) (FuncBody.stmts (bodyOf (inAt 45 6))) (scopeOf (inAt 45 6)) 0 [] .none .none .none .none none .none .none 0)), ⟨[]⟩⟩
noncomputable def y335 (P : Params) : Obj := ⟨(.type "code"), none, (.fields ⟨[(.str z114 621), (.str z133 622), (.str z1 623), (.int 242 0), (.int 1 0), (.int 0 0), (.int 0 0), (.int 3 0), (.ref 327), (.bool Bool.true), (.int 181 0), (.ref 328), .none, (.ref 329), (.ref 330), (.ref 331), (.int 626 0), (.int 242 0), (.str z1 627)]⟩), ⟨[]⟩⟩
noncomputable def y336 (P : Params) : Obj := ⟨(.type "function"), none, (.func (FuncData.mk z114 z133 (argsOf (inAt 45 6)) (FuncBody.stmts (bodyOf (inAt 45 6))) (scopeOf (inAt 45 6)) 3 [] .none .none .none (.str z88 496) none (.ref 332) .none 0)), ⟨[]⟩⟩
noncomputable def y337 (P : Params) : Obj := ⟨(.type "tuple"), none, (.seq ⟨[]⟩ 0), ⟨[]⟩⟩
noncomputable def y338 (P : Params) : Obj := ⟨.none, none, (.fields ⟨[]⟩), ⟨[]⟩⟩
noncomputable def y339 (P : Params) : Obj := ⟨(.type "tuple"), none, (.seq ⟨[(.str z53 632), (.str z27 633)]⟩ 0), ⟨[]⟩⟩
noncomputable def y340 (P : Params) : Obj := ⟨(.type "tuple"), none, (.seq ⟨[]⟩ 0), ⟨[]⟩⟩
noncomputable def y341 (P : Params) : Obj := ⟨.none, none, (.func (FuncData.mk z115 z134 (argsOf (inAt 45 7)) (FuncBody.stmts (bodyOf (inAt 45 7))) (scopeOf (inAt 45 7)) 0 [] .none .none .none .none none .none .none 0)), ⟨[]⟩⟩
noncomputable def y342 (P : Params) : Obj := ⟨(.type "code"), none, (.fields ⟨[(.str z115 629), (.str z134 630), (.str z1 631), (.int 254 0), (.int 1 0), (.int 0 0), (.int 0 0), (.int 3 0), (.ref 334), (.bool Bool.true), (.int 181 0), (.ref 335), .none, (.ref 336), (.ref 337), (.ref 338), (.int 634 0), (.int 254 0), (.str z1 635)]⟩), ⟨[]⟩⟩
noncomputable def y343 (P : Params) : Obj := ⟨(.type "function"), none, (.func (FuncData.mk z115 z134 (argsOf (inAt 45 7)) (FuncBody.stmts (bodyOf (inAt 45 7))) (scopeOf (inAt 45 7)) 3 [] .none .none .none (.str z88 496) none (.ref 339) .none 0)), ⟨[]⟩⟩
noncomputable def y344 (P : Params) : Obj := ⟨(.type "tuple"), none, (.seq ⟨[]⟩ 0), ⟨[]⟩⟩
noncomputable def y345 (P : Params) : Obj := ⟨.none, none, (.fields ⟨[]⟩), ⟨[]⟩⟩
noncomputable def y346 (P : Params) : Obj := ⟨(.type "tuple"), none, (.seq ⟨[(.str z53 640), (.str z130 641), (.str z27 642)]⟩ 0), ⟨[]⟩⟩
noncomputable def y347 (P : Params) : Obj := ⟨(.type "tuple"), none, (.seq ⟨[]⟩ 0), ⟨[]⟩⟩
noncomputable def y348 (P : Params) : Obj := ⟨.none, none, (.func (FuncData.mk z116 z135 (argsOf (inAt 45 8)) (FuncBody.stmts (bodyOf (inAt 45 8))) (scopeOf (inAt 45 8)) 0 [] .none .none .none .none none .none .none 0)), ⟨[]⟩⟩
noncomputable def y349 (P : Params) : Obj := ⟨(.type "code"), none, (.fields ⟨[(.str z116 637), (.str z135 638), (.str z1 639), (.int 261 0), (.int 1 0), (.int 0 0), (.int 0 0), (.int 3 0), (.ref 341), (.bool Bool.true), (.int 181 0), (.ref 342), .none, (.ref 343), (.ref 344), (.ref 345), (.int 643 0), (.int 261 0), (.str z1 644)]⟩), ⟨[]⟩⟩
noncomputable def y350 (P : Params) : Obj := ⟨(.type "function"), none, (.func (FuncData.mk z116 z135 (argsOf (inAt 45 8)) (FuncBody.stmts (bodyOf (inAt 45 8))) (scopeOf (inAt 45 8)) 3 [] .none .none .none (.str z88 496) none (.ref 346) .none 0)), ⟨[]⟩⟩
noncomputable def y351 (P : Params) : Obj := ⟨(.type "tuple"), none, (.seq ⟨[]⟩ 0), ⟨[]⟩⟩
noncomputable def y352 (P : Params) : Obj := ⟨.none, none, (.fields ⟨[]⟩), ⟨[]⟩⟩
noncomputable def y353 (P : Params) : Obj := ⟨(.type "tuple"), none, (.seq ⟨[(.str z53 649), (.str z55 650), (.str z136 651)]⟩ 0), ⟨[]⟩⟩
noncomputable def y354 (P : Params) : Obj := ⟨(.type "tuple"), none, (.seq ⟨[]⟩ 0), ⟨[]⟩⟩
noncomputable def y355 (P : Params) : Obj := ⟨.none, none, (.func (FuncData.mk z117 z137 (argsOf (inAt 45 9)) (FuncBody.stmts (bodyOf (inAt 45 9))) (scopeOf (inAt 45 9)) 0 [] .none .none .none .none none .none .none 0)), ⟨[]⟩⟩
noncomputable def y356 (P : Params) : Obj := ⟨(.type "code"), none, (.fields ⟨[(.str z117 646), (.str z137 647), (.str z1 648), (.int 273 0), (.int 2 0), (.int 0 0), (.int 0 0), (.int 3 0), (.ref 348), (.bool Bool.true), (.int 181 0), (.ref 349), .none, (.ref 350), (.ref 351), (.ref 352), (.int 652 0), (.int 273 0), (.str z1 653)]⟩), ⟨[]⟩⟩
noncomputable def y357 (P : Params) : Obj := ⟨(.type "function"), none, (.func (FuncData.mk z117 z137 (argsOf (inAt 45 9)) (FuncBody.stmts (bodyOf (inAt 45 9))) (scopeOf (inAt 45 9)) 3 [] .none .none .none (.str z88 496) none (.ref 353) .none 0)), ⟨[]⟩⟩
noncomputable def y358 (P : Params) : Obj := ⟨(.type "tuple"), none, (.seq ⟨[]⟩ 0), ⟨[]⟩⟩
noncomputable def y359 (P : Params) : Obj := ⟨.none, none, (.fields ⟨[]⟩), ⟨[]⟩⟩
noncomputable def y360 (P : Params) : Obj := ⟨(.type "tuple"), none, (.seq ⟨[(.str z53 658), (.str z55 659), (.str z136 660)]⟩ 0), ⟨[]⟩⟩
noncomputable def y361 (P : Params) : Obj := ⟨(.type "tuple"), none, (.seq ⟨[]⟩ 0), ⟨[]⟩⟩
noncomputable def y362 (P : Params) : Obj := ⟨.none, none, (.func (FuncData.mk z118 z138 (argsOf (inAt 45 10)) (FuncBody.stmts (bodyOf (inAt 45 10))) (scopeOf (inAt 45 10)) 0 [] .none .none .none .none none .none .none 0)), ⟨[]⟩⟩
noncomputable def y363 (P : Params) : Obj := ⟨(.type "code"), none, (.fields ⟨[(.str z118 655), (.str z138 656), (.str z1 657), (.int 280 0), (.int 2 0), (.int 0 0), (.int 0 0), (.int 3 0), (.ref 355), (.bool Bool.true), (.int 181 0), (.ref 356), .none, (.ref 357), (.ref 358), (.ref 359), (.int 661 0), (.int 280 0), (.str z1 662)]⟩), ⟨[]⟩⟩
noncomputable def y364 (P : Params) : Obj := ⟨(.type "function"), none, (.func (FuncData.mk z118 z138 (argsOf (inAt 45 10)) (FuncBody.stmts (bodyOf (inAt 45 10))) (scopeOf (inAt 45 10)) 3 [] .none .none .none (.str z88 496) none (.ref 360) .none 0)), ⟨[]⟩⟩
noncomputable def y365 (P : Params) : Obj := ⟨(.type "tuple"), none, (.seq ⟨[]⟩ 0), ⟨[]⟩⟩
noncomputable def y366 (P : Params) : Obj := ⟨.none, none, (.fields ⟨[]⟩), ⟨[]⟩⟩
noncomputable def y367 (P : Params) : Obj := ⟨(.type "tuple"), none, (.seq ⟨[(.str z53 667), (.str z126 668), (.str z27 669)]⟩ 0), ⟨[]⟩⟩
noncomputable def y368 (P : Params) : Obj := ⟨(.type "tuple"), none, (.seq ⟨[]⟩ 0), ⟨[]⟩⟩
noncomputable def y369 (P : Params) : Obj := ⟨.none, none, (.func (FuncData.mk z119 z139 (argsOf (inAt 45 11)) (FuncBody.stmts (bodyOf (inAt 45 11))) (scopeOf (inAt 45 11)) 0 [] .none .none .none .none none .none .none 0)), ⟨[]⟩⟩
noncomputable def y370 (P : Params) : Obj := ⟨(.type "code"), none, (.fields ⟨[(.str z119 664), (.str z139 665), (.str z1 666), (.int 290 0), (.int 2 0), (.int 0 0), (.int 0 0), (.int 3 0), (.ref 362), (.bool Bool.true), (.int 181 0), (.ref 363), .none, (.ref 364), (.ref 365), (.ref 366), (.int 670 0), (.int 290 0), (.str z1 671)]⟩), ⟨[]⟩⟩
noncomputable def y371 (P : Params) : Obj := ⟨(.type "function"), none, (.func (FuncData.mk z119 z139 (argsOf (inAt 45 11)) (FuncBody.stmts (bodyOf (inAt 45 11))) (scopeOf (inAt 45 11)) 3 [] .none .none .none (.str z88 496) none (.ref 367) .none 0)), ⟨[]⟩⟩
noncomputable def y372 (P : Params) : Obj := ⟨(.type "tuple"), none, (.seq ⟨[]⟩ 0), ⟨[]⟩⟩
noncomputable def y373 (P : Params) : Obj := ⟨.none, none, (.fields ⟨[]⟩), ⟨[]⟩⟩
noncomputable def y374 (P : Params) : Obj := ⟨(.type "tuple"), none, (.seq ⟨[(.str z53 676), (.str z55 677), (.str z140 678), (.str z141 679), (.str z142 680), (.str z143 681)]⟩ 0), ⟨[]⟩⟩
noncomputable def y375 (P : Params) : Obj := ⟨(.type "tuple"), none, (.seq ⟨[]⟩ 0), ⟨[]⟩⟩
noncomputable def y376 (P : Params) : Obj := ⟨.none, none, (.func (FuncData.mk z120 z144 (argsOf (inAt 45 12)) (FuncBody.stmts (bodyOf (inAt 45 12))) (scopeOf (inAt 45 12)) 0 [] .none .none .none .none none .none .none 0)), ⟨[]⟩⟩
noncomputable def y377 (P : Params) : Obj := ⟨(.type "code"), none, (.fields ⟨[(.str z120 673), (.str z144 674), (.str z1 675), (.int 294 0), (.int 2 0), (.int 0 0), (.int 0 0), (.int 3 0), (.ref 369), (.bool Bool.true), (.int 181 0), (.ref 370), .none, (.ref 371), (.ref 372), (.ref 373), (.int 682 0), (.int 294 0), (.str z1 683)]⟩), ⟨[]⟩⟩
noncomputable def y378 (P : Params) : Obj := ⟨(.type "function"), none, (.func (FuncData.mk z120 z144 (argsOf (inAt 45 12)) (FuncBody.stmts (bodyOf (inAt 45 12))) (scopeOf (inAt 45 12)) 3 [] .none .none .none (.str z88 496) none (.ref 374) .none 0)), ⟨[]⟩⟩
noncomputable def y379 (P : Params) : Obj := ⟨(.type "tuple"), none, (.seq ⟨[]⟩ 0), ⟨[]⟩⟩
noncomputable def y380 (P : Params) : Obj := ⟨.none, none, (.fields ⟨[]⟩), ⟨[]⟩⟩
noncomputable def y381 (P : Params) : Obj := ⟨(.type "tuple"), none, (.seq ⟨[(.str z53 688), (.str z126 689), (.str z141 690), (.str z143 691), (.str z142 692)]⟩ 0), ⟨[]⟩⟩
noncomputable def y382 (P : Params) : Obj := ⟨(.type "tuple"), none, (.seq ⟨[]⟩ 0), ⟨[]⟩⟩
noncomputable def y383 (P : Params) : Obj := ⟨.none, none, (.func (FuncData.mk z38 z145 (argsOf (inAt 45 13)) (FuncBody.stmts (bodyOf (inAt 45 13))) (scopeOf (inAt 45 13)) 0 [] .none .none .none .none none .none .none 0)), ⟨[]⟩⟩
noncomputable def y384 (P : Params) : Obj := ⟨(.type "code"), none, (.fields ⟨[(.str z38 685), (.str z145 686), (.str z1 687), (.int 309 0), (.int 3 0), (.int 0 0), (.int 0 0), (.int 3 0), (.ref 376), (.bool Bool.true), (.int 181 0), (.ref 377), .none, (.ref 378), (.ref 379), (.ref 380), (.int 693 0), (.int 309 0), (.str z1 694)]⟩), ⟨[]⟩⟩
noncomputable def y385 (P : Params) : Obj := ⟨(.type "function"), none, (.func (FuncData.mk z38 z145 (argsOf (inAt 45 13)) (FuncBody.stmts (bodyOf (inAt 45 13))) (scopeOf (inAt 45 13)) 3 [] .none .none .none (.str z88 496) none (.ref 381) .none 0)), ⟨[]⟩⟩
noncomputable def y386 (P : Params) : Obj := ⟨(.type "tuple"), none, (.seq ⟨[]⟩ 0), ⟨[]⟩⟩
noncomputable def y387 (P : Params) : Obj := ⟨.none, none, (.fields ⟨[]⟩), ⟨[]⟩⟩
noncomputable def y388 (P : Params) : Obj := ⟨(.type "tuple"), none, (.seq ⟨[(.str z53 699), (.str z55 700), (.str z27 701), (.str z143 702)]⟩ 0), ⟨[]⟩⟩
noncomputable def y389 (P : Params) : Obj := ⟨(.type "tuple"), none, (.seq ⟨[]⟩ 0), ⟨[]⟩⟩
noncomputable def y390 (P : Params) : Obj := ⟨.none, none, (.func (FuncData.mk z121 z146 (argsOf (inAt 45 14)) (FuncBody.stmts (bodyOf (inAt 45 14))) (scopeOf (inAt 45 14)) 0 [] .none .none .none .none none .none .none 0)), ⟨[]⟩⟩
noncomputable def y391 (P : Params) : Obj := ⟨(.type "code"), none, (.fields ⟨[(.str z121 696), (.str z146 697), (.str z1 698), (.int 319 0), (.int 2 0), (.int 0 0), (.int 0 0), (.int 3 0), (.ref 383), (.bool Bool.true), (.int 181 0), (.ref 384), .none, (.ref 385), (.ref 386), (.ref 387), (.int 703 0), (.int 319 0), (.str z1 704)]⟩), ⟨[]⟩⟩
noncomputable def y392 (P : Params) : Obj := ⟨(.type "function"), none, (.func (FuncData.mk z121 z146 (argsOf (inAt 45 14)) (FuncBody.stmts (bodyOf (inAt 45 14))) (scopeOf (inAt 45 14)) 3 [] .none .none .none (.str z88 496) none (.ref 388) .none 0)), ⟨[]⟩⟩
noncomputable def y393 (P : Params) : Obj := ⟨(.type "tuple"), none, (.seq ⟨[]⟩ 0), ⟨[]⟩⟩
noncomputable def y394 (P : Params) : Obj := ⟨.none, none, (.fields ⟨[]⟩), ⟨[]⟩⟩
noncomputable def y395 (P : Params) : Obj := ⟨(.type "tuple"), none, (.seq ⟨[(.str z53 709), (.str z130 710), (.str z147 711), (.str z124 712), (.str z55 713), (.str z27 714), (.str z143 715)]⟩ 0), ⟨[]⟩⟩
noncomputable def y396 (P : Params) : Obj := ⟨(.type "tuple"), none, (.seq ⟨[]⟩ 0), ⟨[]⟩⟩
noncomputable def y397 (P : Params) : Obj := ⟨.none, none, (.func (FuncData.mk z43 z148 (argsOf (inAt 45 15)) (FuncBody.stmts (bodyOf (inAt 45 15))) (scopeOf (inAt 45 15)) 0 [] .none .none .none .none none .none .none 0)), ⟨[]⟩⟩
noncomputable def y398 (P : Params) : Obj := ⟨(.type "code"), none, (.fields ⟨[(.str z43 706), (.str z148 707), (.str z1 708), (.int 340 0), (.int 3 0), (.int 0 0), (.int 0 0), (.int 3 0), (.ref 390), (.bool Bool.true), (.int 181 0), (.ref 391), .none, (.ref 392), (.ref 393), (.ref 394), (.int 716 0), (.int 340 0), (.str z1 717)]⟩), ⟨[]⟩⟩
noncomputable def y399 (P : Params) : Obj := ⟨(.type "function"), none, (.func (FuncData.mk z43 z148 (argsOf (inAt 45 15)) (FuncBody.stmts (bodyOf (inAt 45 15))) (scopeOf (inAt 45 15)) 3 [] .none .none .none (.str z88 496) none (.ref 395) .none 0)), ⟨[]⟩⟩
noncomputable def y400 (P : Params) : Obj := ⟨(.type "tuple"), none, (.seq ⟨[]⟩ 0), ⟨[]⟩⟩
noncomputable def y401 (P : Params) : Obj := ⟨.none, none, (.fields ⟨[]⟩), ⟨[]⟩⟩
noncomputable def y402 (P : Params) : Obj := ⟨(.type "tuple"), none, (.seq ⟨[(.str z53 722), (.str z126 723), (.str z27 724), (.str z149 725), (.str z141 726), (.str z130 727), (.str z143 728), (.str z142 729)]⟩ 0), ⟨[]⟩⟩
noncomputable def y403 (P : Params) : Obj := ⟨(.type "tuple"), none, (.seq ⟨[]⟩ 0), ⟨[]⟩⟩
noncomputable def y404 (P : Params) : Obj := ⟨.none, none, (.func (FuncData.mk z122 z150 (argsOf (inAt 45 16)) (FuncBody.stmts (bodyOf (inAt 45 16))) (scopeOf (inAt 45 16)) 0 [] .none .none .none .none none .none .none 0)), ⟨[]⟩⟩
noncomputable def y405 (P : Params) : Obj := ⟨(.type "code"), none, (.fields ⟨[(.str z122 719), (.str z150 720), (.str z1 721), (.int 369 0), (.int 1 0), (.int 0 0), (.int 0 0), (.int 3 0), (.ref 397), (.bool Bool.true), (.int 181 0), (.ref 398), .none, (.ref 399), (.ref 400), (.ref 401), (.int 730 0), (.int 369 0), (.str z1 731)]⟩), ⟨[]⟩⟩
noncomputable def y406 (P : Params) : Obj := ⟨(.type "function"), none, (.func (FuncData.mk z122 z150 (argsOf (inAt 45 16)) (FuncBody.stmts (bodyOf (inAt 45 16))) (scopeOf (inAt 45 16)) 3 [] .none .none .none (.str z88 496) none (.ref 402) .none 0)), ⟨[]⟩⟩
noncomputable def y407 (P : Params) : Obj := ⟨(.type "tuple"), none, (.seq ⟨[]⟩ 0), ⟨[]⟩⟩
noncomputable def y408 (P : Params) : Obj := ⟨.none, none, (.fields ⟨[]⟩), ⟨[]⟩⟩
noncomputable def y409 (P : Params) : Obj := ⟨(.type "tuple"), none, (.seq ⟨[(.str z53 736), (.str z147 737), (.str z27 738), (.str z151 739)]⟩ 0), ⟨[]⟩⟩
noncomputable def y410 (P : Params) : Obj := ⟨(.type "tuple"), none, (.seq ⟨[]⟩ 0), ⟨[]⟩⟩
noncomputable def y411 (P : Params) : Obj := ⟨.none, none, (.func (FuncData.mk z123 z152 (argsOf (inAt 45 17)) (FuncBody.stmts (bodyOf (inAt 45 17))) (scopeOf (inAt 45 17)) 0 [] .none .none .none .none none .none .none 0)), ⟨[]⟩⟩
noncomputable def y412 (P : Params) : Obj := ⟨(.type "code"), none, (.fields ⟨[(.str z123 733), (.str z152 734), (.str z1 735), (.int 394 0), (.int 2 0), (.int 0 0), (.int 0 0), (.int 3 0), (.ref 404), (.bool Bool.true), (.int 181 0), (.ref 405), .none, (.ref 406), (.ref 407), (.ref 408), (.int 740 0), (.int 394 0), (.str z1 741)]⟩), ⟨[]⟩⟩
noncomputable def y413 (P : Params) : Obj := ⟨(.type "function"), none, (.func (FuncData.mk z123 z152 (argsOf (inAt 45 17)) (FuncBody.stmts (bodyOf (inAt 45 17))) (scopeOf (inAt 45 17)) 3 [] .none .none .none (.str z88 496) none (.ref 409) .none 0)), ⟨[]⟩⟩
noncomputable def y414 (P : Params) : Obj := ⟨(.type "tuple"), none, (.seq ⟨[(.str z55 743), (.str z124 744), (.str z153 745)]⟩ 0), ⟨[]⟩⟩
noncomputable def y415 (P : Params) : Obj := ⟨(.type "dict"), none, (.dict ⟨[⟨(PyData.keyHash P z44), (.str z44 557), (.str z88 496)⟩, ⟨(PyData.keyHash P z46), (.str z46 561), (.int 173 560)⟩, ⟨(PyData.keyHash P z52), (.str z52 571), (.ref 291)⟩, ⟨(PyData.keyHash P z110), (.str z110 580), (.ref 298)⟩, ⟨(PyData.keyHash P z108), (.str z108 591), (.ref 305)⟩, ⟨(PyData.keyHash P z111), (.str z111 602), (.ref 312)⟩, ⟨(PyData.keyHash P z112), (.str z112 613), (.ref 319)⟩, ⟨(PyData.keyHash P z113), (.str z113 620), (.ref 326)⟩, ⟨(PyData.keyHash P z114), (.str z114 628), (.ref 333)⟩, ⟨(PyData.keyHash P z115), (.str z115 636), (.ref 340)⟩, ⟨(PyData.keyHash P z116), (.str z116 645), (.ref 347)⟩, ⟨(PyData.keyHash P z117), (.str z117 654), (.ref 354)⟩, ⟨(PyData.keyHash P z118), (.str z118 663), (.ref 361)⟩, ⟨(PyData.keyHash P z119), (.str z119 672), (.ref 368)⟩, ⟨(PyData.keyHash P z120), (.str z120 684), (.ref 375)⟩, ⟨(PyData.keyHash P z38), (.str z38 695), (.ref 382)⟩, ⟨(PyData.keyHash P z121), (.str z121 705), (.ref 389)⟩, ⟨(PyData.keyHash P z43), (.str z43 718), (.ref 396)⟩, ⟨(PyData.keyHash P z122), (.str z122 732), (.ref 403)⟩, ⟨(PyData.keyHash P z123), (.str z123 742), (.ref 410)⟩, ⟨(PyData.keyHash P z47), (.str z47 746), (.ref 411)⟩, ⟨(PyData.keyHash P z87), (.str z87 748), (.ref 414)⟩, ⟨(PyData.keyHash P z48), (.str z48 750), (.ref 415)⟩, ⟨(PyData.keyHash P z5), (.str z5 751), .none⟩]⟩ 4), ⟨[]⟩⟩
noncomputable def y416 (P : Params) : Obj := ⟨(.type "type"), none, (.cls (ClassData.mk z109 [(.type "object")] [(.ref 413), (.type "object")] 412 z109 Bool.true [] [] Bool.false none Bool.false)), ⟨[none, none, (some (.str z109 550)), (some (.str z109 558)), (some (.builtin "object.__new__")), (some (.bool Bool.true))]⟩⟩
noncomputable def y417 (P : Params) : Obj := ⟨(.type "getset_descriptor"), none, (.fields ⟨[(.str z87 747), (.ref 413), (.builtin "function.__dict__"), (.builtin "function.__dict__#set")]⟩), ⟨[]⟩⟩
noncomputable def y418 (P : Params) : Obj := ⟨(.type "getset_descriptor"), none, (.fields ⟨[(.str z48 749), (.ref 413), (.builtin "ExceptionGroup.__weakref__"), .none]⟩), ⟨[]⟩⟩
noncomputable def y419 (P : Params) : Obj := ⟨(.type "super"), none, (.fields ⟨[(.ref 413), (.ref 413), (.ref 413)]⟩), ⟨[]⟩⟩
noncomputable def y420 (P : Params) : Obj := ⟨(.type "builtin_function_or_method"), none, (.fields ⟨[(.builtin "object.__init_subclass__"), (.ref 413)]⟩), ⟨[]⟩⟩
noncomputable def t6 (P : Params) : BT := (.node (boot_o_0 P) (.node (boot_o_1 P) (.node (y278 P) (.node (boot_o_7 P) (.node (y6 P) (.node (y22 P) (.node (y54 P) (.node (y121 P) (.node (y254 P) .nil .nil) (.node (y386 P) .nil .nil)) (.node (y190 P) (.node (y322 P) .nil .nil) .nil)) (.node (y86 P) (.node (y156 P) (.node (y290 P) .nil .nil) (.node (y418 P) .nil .nil)) (.node (y222 P) (.node (y354 P) .nil .nil) .nil))) (.node (y38 P) (.node (y70 P) (.node (y140 P) (.node (y272 P) .nil .nil) (.node (y402 P) .nil .nil)) (.node (y206 P) (.node (y338 P) .nil .nil) .nil)) (.node (y105 P) (.node (y174 P) (.node (y306 P) .nil .nil) .nil) (.node (y238 P) (.node (y370 P) .nil .nil) .nil)))) (.node (y14 P) (.node (y30 P) (.node (y62 P) (.node (y135 P) (.node (y264 P) .nil .nil) (.node (y394 P) .nil .nil)) (.node (y198 P) (.node (y330 P) .nil .nil) .nil)) (.node (y97 P) (.node (y164 P) (.node (y298 P) .nil .nil) .nil) (.node (y230 P) (.node (y362 P) .nil .nil) .nil))) (.node (y46 P) (.node (y78 P) (.node (y148 P) (.node (y282 P) .nil .nil) (.node (y410 P) .nil .nil)) (.node (y214 P) (.node (y346 P) .nil .nil) .nil)) (.node (y113 P) (.node (y182 P) (.node (y314 P) .nil .nil) .nil) (.node (y246 P) (.node (y378 P) .nil .nil) .nil))))) (.node (y0 P) (.node (y10 P) (.node (y26 P) (.node (y58 P) (.node (y125 P) (.node (y258 P) .nil .nil) (.node (y390 P) .nil .nil)) (.node (y194 P) (.node (y326 P) .nil .nil) .nil)) (.node (y93 P) (.node (y160 P) (.node (y294 P) .nil .nil) .nil) (.node (y226 P) (.node (y358 P) .nil .nil) .nil))) (.node (y42 P) (.node (y74 P) (.node (y144 P) (.node (y276 P) .nil .nil) (.node (y406 P) .nil .nil)) (.node (y210 P) (.node (y342 P) .nil .nil) .nil)) (.node (y109 P) (.node (y178 P) (.node (y310 P) .nil .nil) .nil) (.node (y242 P) (.node (y374 P) .nil .nil) .nil)))) (.node (y18 P) (.node (y34 P) (.node (y66 P) (.node (y136 P) (.node (y268 P) .nil .nil) (.node (y398 P) .nil .nil)) (.node (y202 P) (.node (y334 P) .nil .nil) .nil)) (.node (y101 P) (.node (y168 P) (.node (y302 P) .nil .nil) .nil) (.node (y234 P) (.node (y366 P) .nil .nil) .nil))) (.node (y50 P) (.node (y82 P) (.node (y152 P) (.node (y286 P) .nil .nil) (.node (y414 P) .nil .nil)) (.node (y218 P) (.node (y350 P) .nil .nil) .nil)) (.node (y117 P) (.node (y186 P) (.node (y318 P) .nil .nil) .nil) (.node (y250 P) (.node (y382 P) .nil .nil) .nil)))))) (.node (boot_o_5 P) (.node (boot_o_9 P) (.node (y8 P) (.node (y24 P) (.node (y56 P) (.node (y123 P) (.node (y256 P) .nil .nil) (.node (y388 P) .nil .nil)) (.node (y192 P) (.node (y324 P) .nil .nil) .nil)) (.node (y91 P) (.node (y158 P) (.node (y292 P) .nil .nil) (.node (y420 P) .nil .nil)) (.node (y224 P) (.node (y356 P) .nil .nil) .nil))) (.node (y40 P) (.node (y72 P) (.node (y142 P) (.node (y274 P) .nil .nil) (.node (y404 P) .nil .nil)) (.node (y208 P) (.node (y340 P) .nil .nil) .nil)) (.node (y107 P) (.node (y176 P) (.node (y308 P) .nil .nil) .nil) (.node (y240 P) (.node (y372 P) .nil .nil) .nil)))) (.node (y16 P) (.node (y32 P) (.node (y64 P) (.node (y131 P) (.node (y266 P) .nil .nil) (.node (y396 P) .nil .nil)) (.node (y200 P) (.node (y332 P) .nil .nil) .nil)) (.node (y99 P) (.node (y166 P) (.node (y300 P) .nil .nil) .nil) (.node (y232 P) (.node (y364 P) .nil .nil) .nil))) (.node (y48 P) (.node (y80 P) (.node (y150 P) (.node (y284 P) .nil .nil) (.node (y412 P) .nil .nil)) (.node (y216 P) (.node (y348 P) .nil .nil) .nil)) (.node (y115 P) (.node (y184 P) (.node (y316 P) .nil .nil) .nil) (.node (y248 P) (.node (y380 P) .nil .nil) .nil))))) (.node (y2 P) (.node (y12 P) (.node (y28 P) (.node (y60 P) (.node (y127 P) (.node (y260 P) .nil .nil) (.node (y392 P) .nil .nil)) (.node (y196 P) (.node (y328 P) .nil .nil) .nil)) (.node (y95 P) (.node (y162 P) (.node (y296 P) .nil .nil) .nil) (.node (y228 P) (.node (y360 P) .nil .nil) .nil))) (.node (y44 P) (.node (y76 P) (.node (y146 P) (.node (y280 P) .nil .nil) (.node (y408 P) .nil .nil)) (.node (y212 P) (.node (y344 P) .nil .nil) .nil)) (.node (y111 P) (.node (y180 P) (.node (y312 P) .nil .nil) .nil) (.node (y244 P) (.node (y376 P) .nil .nil) .nil)))) (.node (y20 P) (.node (y36 P) (.node (y68 P) (.node (y138 P) (.node (y270 P) .nil .nil) (.node (y400 P) .nil .nil)) (.node (y204 P) (.node (y336 P) .nil .nil) .nil)) (.node (y103 P) (.node (y172 P) (.node (y304 P) .nil .nil) .nil) (.node (y236 P) (.node (y368 P) .nil .nil) .nil))) (.node (y52 P) (.node (y84 P) (.node (y154 P) (.node (y288 P) .nil .nil) (.node (y416 P) .nil .nil)) (.node (y220 P) (.node (y352 P) .nil .nil) .nil)) (.node (y119 P) (.node (y188 P) (.node (y320 P) .nil .nil) .nil) (.node (y252 P) (.node (y384 P) .nil .nil) .nil))))))) (.node (y88 P) (.node (boot_o_4 P) (.node (boot_o_8 P) (.node (y7 P) (.node (y23 P) (.node (y55 P) (.node (y122 P) (.node (y255 P) .nil .nil) (.node (y387 P) .nil .nil)) (.node (y191 P) (.node (y323 P) .nil .nil) .nil)) (.node (y87 P) (.node (y157 P) (.node (y291 P) .nil .nil) (.node (y419 P) .nil .nil)) (.node (y223 P) (.node (y355 P) .nil .nil) .nil))) (.node (y39 P) (.node (y71 P) (.node (y141 P) (.node (y273 P) .nil .nil) (.node (y403 P) .nil .nil)) (.node (y207 P) (.node (y339 P) .nil .nil) .nil)) (.node (y106 P) (.node (y175 P) (.node (y307 P) .nil .nil) .nil) (.node (y239 P) (.node (y371 P) .nil .nil) .nil)))) (.node (y15 P) (.node (y31 P) (.node (y63 P) (.node (y130 P) (.node (y265 P) .nil .nil) (.node (y395 P) .nil .nil)) (.node (y199 P) (.node (y331 P) .nil .nil) .nil)) (.node (y98 P) (.node (y165 P) (.node (y299 P) .nil .nil) .nil) (.node (y231 P) (.node (y363 P) .nil .nil) .nil))) (.node (y47 P) (.node (y79 P) (.node (y149 P) (.node (y283 P) .nil .nil) (.node (y411 P) .nil .nil)) (.node (y215 P) (.node (y347 P) .nil .nil) .nil)) (.node (y114 P) (.node (y183 P) (.node (y315 P) .nil .nil) .nil) (.node (y247 P) (.node (y379 P) .nil .nil) .nil))))) (.node (y279 P) (.node (y11 P) (.node (y27 P) (.node (y59 P) (.node (y126 P) (.node (y259 P) .nil .nil) (.node (y391 P) .nil .nil)) (.node (y195 P) (.node (y327 P) .nil .nil) .nil)) (.node (y94 P) (.node (y161 P) (.node (y295 P) .nil .nil) .nil) (.node (y227 P) (.node (y359 P) .nil .nil) .nil))) (.node (y43 P) (.node (y75 P) (.node (y145 P) (.node (y277 P) .nil .nil) (.node (y407 P) .nil .nil)) (.node (y211 P) (.node (y343 P) .nil .nil) .nil)) (.node (y110 P) (.node (y179 P) (.node (y311 P) .nil .nil) .nil) (.node (y243 P) (.node (y375 P) .nil .nil) .nil)))) (.node (y19 P) (.node (y35 P) (.node (y67 P) (.node (y137 P) (.node (y269 P) .nil .nil) (.node (y399 P) .nil .nil)) (.node (y203 P) (.node (y335 P) .nil .nil) .nil)) (.node (y102 P) (.node (y171 P) (.node (y303 P) .nil .nil) .nil) (.node (y235 P) (.node (y367 P) .nil .nil) .nil))) (.node (y51 P) (.node (y83 P) (.node (y153 P) (.node (y287 P) .nil .nil) (.node (y415 P) .nil .nil)) (.node (y219 P) (.node (y351 P) .nil .nil) .nil)) (.node (y118 P) (.node (y187 P) (.node (y319 P) .nil .nil) .nil) (.node (y251 P) (.node (y383 P) .nil .nil) .nil)))))) (.node (boot_o_6 P) (.node (boot_o_10 P) (.node (y9 P) (.node (y25 P) (.node (y57 P) (.node (y124 P) (.node (y257 P) .nil .nil) (.node (y389 P) .nil .nil)) (.node (y193 P) (.node (y325 P) .nil .nil) .nil)) (.node (y92 P) (.node (y159 P) (.node (y293 P) .nil .nil) .nil) (.node (y225 P) (.node (y357 P) .nil .nil) .nil))) (.node (y41 P) (.node (y73 P) (.node (y143 P) (.node (y275 P) .nil .nil) (.node (y405 P) .nil .nil)) (.node (y209 P) (.node (y341 P) .nil .nil) .nil)) (.node (y108 P) (.node (y177 P) (.node (y309 P) .nil .nil) .nil) (.node (y241 P) (.node (y373 P) .nil .nil) .nil)))) (.node (y17 P) (.node (y33 P) (.node (y65 P) (.node (y132 P) (.node (y267 P) .nil .nil) (.node (y397 P) .nil .nil)) (.node (y201 P) (.node (y333 P) .nil .nil) .nil)) (.node (y100 P) (.node (y167 P) (.node (y301 P) .nil .nil) .nil) (.node (y233 P) (.node (y365 P) .nil .nil) .nil))) (.node (y49 P) (.node (y81 P) (.node (y151 P) (.node (y285 P) .nil .nil) (.node (y413 P) .nil .nil)) (.node (y217 P) (.node (y349 P) .nil .nil) .nil)) (.node (y116 P) (.node (y185 P) (.node (y317 P) .nil .nil) .nil) (.node (y249 P) (.node (y381 P) .nil .nil) .nil))))) (.node (y3 P) (.node (y13 P) (.node (y29 P) (.node (y61 P) (.node (y128 P) (.node (y261 P) .nil .nil) (.node (y393 P) .nil .nil)) (.node (y197 P) (.node (y329 P) .nil .nil) .nil)) (.node (y96 P) (.node (y163 P) (.node (y297 P) .nil .nil) .nil) (.node (y229 P) (.node (y361 P) .nil .nil) .nil))) (.node (y45 P) (.node (y77 P) (.node (y147 P) (.node (y281 P) .nil .nil) (.node (y409 P) .nil .nil)) (.node (y213 P) (.node (y345 P) .nil .nil) .nil)) (.node (y112 P) (.node (y181 P) (.node (y313 P) .nil .nil) .nil) (.node (y245 P) (.node (y377 P) .nil .nil) .nil)))) (.node (y21 P) (.node (y37 P) (.node (y69 P) (.node (y139 P) (.node (y271 P) .nil .nil) (.node (y401 P) .nil .nil)) (.node (y205 P) (.node (y337 P) .nil .nil) .nil)) (.node (y104 P) (.node (y173 P) (.node (y305 P) .nil .nil) .nil) (.node (y237 P) (.node (y369 P) .nil .nil) .nil))) (.node (y53 P) (.node (y85 P) (.node (y155 P) (.node (y289 P) .nil .nil) (.node (y417 P) .nil .nil)) (.node (y221 P) (.node (y353 P) .nil .nil) .nil)) (.node (y120 P) (.node (y189 P) (.node (y321 P) .nil .nil) .nil) (.node (y253 P) (.node (y385 P) .nil .nil) .nil))))))))
noncomputable def pos6 : Pos := (Pos.mk 173 0 408 37)
noncomputable def y421 (P : Params) : Obj := ⟨(.type "dict"), none, (.dict ⟨[⟨(PyData.keyHash P z3), (.str z3 165), (.str z154 754)⟩, ⟨(PyData.keyHash P z5), (.str z5 166), .none⟩, ⟨(PyData.keyHash P z6), (.str z6 167), .none⟩, ⟨(PyData.keyHash P z7), (.str z7 168), (.builtin "__main__.__loader__#opaque")⟩, ⟨(PyData.keyHash P z8), (.str z8 169), .none⟩, ⟨(PyData.keyHash P z9), (.str z9 170), (.ref 6)⟩, ⟨(PyData.keyHash P z10), (.str z10 171), (.ref 4)⟩, ⟨(PyData.keyHash P z11), (.str z11 173), (.str z1 172)⟩, ⟨(PyData.keyHash P z12), (.str z12 174), .none⟩, ⟨(PyData.keyHash P z13), (.str z13 193), (.ref 21)⟩, ⟨(PyData.keyHash P z14), (.str z14 197), (.int 1114111 196)⟩, ⟨(PyData.keyHash P z15), (.str z15 204), (.ref 28)⟩, ⟨(PyData.keyHash P z16), (.str z16 211), (.ref 35)⟩, ⟨(PyData.keyHash P z17), (.str z17 218), (.ref 42)⟩, ⟨(PyData.keyHash P z18), (.str z18 225), (.ref 49)⟩, ⟨(PyData.keyHash P z19), (.str z19 232), (.ref 56)⟩, ⟨(PyData.keyHash P z20), (.str z20 239), (.ref 63)⟩, ⟨(PyData.keyHash P z21), (.str z21 246), (.ref 70)⟩, ⟨(PyData.keyHash P z22), (.str z22 253), (.ref 77)⟩, ⟨(PyData.keyHash P z23), (.str z23 259), (.ref 82)⟩, ⟨(PyData.keyHash P z24), (.str z24 267), (.ref 89)⟩, ⟨(PyData.keyHash P z25), (.str z25 275), (.ref 96)⟩, ⟨(PyData.keyHash P z33), (.str z33 282), (.ref 103)⟩, ⟨(PyData.keyHash P z34), (.str z34 292), (.ref 110)⟩, ⟨(PyData.keyHash P z35), (.str z35 301), (.ref 117)⟩, ⟨(PyData.keyHash P z36), (.str z36 311), (.ref 125)⟩, ⟨(PyData.keyHash P z37), (.str z37 333), (.ref 135)⟩, ⟨(PyData.keyHash P z49), (.str z49 364), (.ref 155)⟩, ⟨(PyData.keyHash P z50), (.str z50 370), (.ref 164)⟩, ⟨(PyData.keyHash P z51), (.str z51 376), (.ref 171)⟩, ⟨(PyData.keyHash P z59), (.str z59 495), (.ref 258)⟩, ⟨(PyData.keyHash P z89), (.str z89 500), (.int (-1) 499)⟩, ⟨(PyData.keyHash P z90), (.str z90 503), (.int (-2) 502)⟩, ⟨(PyData.keyHash P z91), (.str z91 505), (.int 10 504)⟩, ⟨(PyData.keyHash P z92), (.str z92 507), (.int 34 506)⟩, ⟨(PyData.keyHash P z93), (.str z93 509), (.int 37 508)⟩, ⟨(PyData.keyHash P z94), (.str z94 511), (.int 39 510)⟩, ⟨(PyData.keyHash P z95), (.str z95 513), (.int 40 512)⟩, ⟨(PyData.keyHash P z96), (.str z96 515), (.int 42 514)⟩, ⟨(PyData.keyHash P z97), (.str z97 517), (.int 46 516)⟩, ⟨(PyData.keyHash P z98), (.str z98 519), (.int 47 518)⟩, ⟨(PyData.keyHash P z99), (.str z99 521), (.int 48 520)⟩, ⟨(PyData.keyHash P z100), (.str z100 523), (.int 92 522)⟩, ⟨(PyData.keyHash P z101), (.str z101 525), (.int 95 524)⟩, ⟨(PyData.keyHash P z102), (.str z102 527), (.int 96 526)⟩, ⟨(PyData.keyHash P z103), (.str z103 529), (.int 98 528)⟩, ⟨(PyData.keyHash P z104), (.str z104 531), (.int 111 530)⟩, ⟨(PyData.keyHash P z105), (.str z105 533), (.int 120 532)⟩, ⟨(PyData.keyHash P z106), (.str z106 542), (.ref 269)⟩, ⟨(PyData.keyHash P z107), (.str z107 549), (.ref 276)⟩, ⟨(PyData.keyHash P z109), (.str z109 753), (.ref 413)⟩, ⟨(PyData.keyHash P z155), (.str z155 768), (.ref 424)⟩, ⟨(PyData.keyHash P z156), (.str z156 777), (.ref 431)⟩, ⟨(PyData.keyHash P z157), (.str z157 788), (.ref 438)⟩, ⟨(PyData.keyHash P z158), (.str z158 794), (.ref 443)⟩, ⟨(PyData.keyHash P z159), (.str z159 800), (.ref 448)⟩]⟩ 56), ⟨[]⟩⟩
noncomputable def y422 (P : Params) : Obj := ⟨.none, none, (.fields ⟨[(.int 1 0), (.int 0 0), (.ref 20), (.int 6 0), (.int 0 0), (.ref 27), (.int 8 0), (.int 0 0), (.ref 34), (.int 10 0), (.int 0 0), (.ref 41), (.int 12 0), (.int 0 0), (.ref 48), (.int 14 0), (.int 0 0), (.ref 55), (.int 16 0), (.int 0 0), (.ref 62), (.int 18 0), (.int 0 0), (.ref 69), (.int 20 0), (.int 0 0), (.ref 76), (.int 28 0), (.int 0 0), (.ref 81), (.int 30 0), (.int 0 0), (.ref 88), (.int 37 0), (.int 0 0), (.ref 95), (.int 44 0), (.int 0 0), (.ref 102), (.int 51 0), (.int 0 0), (.ref 109), (.int 60 0), (.int 0 0), (.ref 116), (.int 66 0), (.int 0 0), (.ref 124), (.int 72 0), (.int 0 0), (.ref 131), (.int 74 0), (.int 0 0), (.ref 144), (.int 81 0), (.int 0 0), (.ref 163), (.int 83 0), (.int 0 0), (.ref 170), (.int 85 0), (.int 0 0), (.ref 177), (.int 157 0), (.int 0 0), (.ref 268), (.int 165 0), (.int 0 0), (.ref 275), (.int 173 0), (.int 0 0), (.ref 282), (.int 410 0), (.int 0 0), (.ref 423), (.int 425 0), (.int 0 0), (.ref 430), (.int 435 0), (.int 0 0), (.ref 437), (.int 451 0), (.int 0 0), (.ref 442), (.int 460 0), (.int 0 0), (.ref 447)]⟩), ⟨[]⟩⟩
noncomputable def y423 (P : Params) : Obj := ⟨(.type "tuple"), none, (.seq ⟨[]⟩ 0), ⟨[]⟩⟩
noncomputable def y424 (P : Params) : Obj := ⟨.none, none, (.fields ⟨[]⟩), ⟨[]⟩⟩
noncomputable def y425 (P : Params) : Obj := ⟨(.type "tuple"), none, (.seq ⟨[(.str z160 759), (.str z161 760), (.str z162 761), (.str z163 762), (.str z164 763), (.str z165 764), (.str z166 765)]⟩ 0), ⟨[]⟩⟩
noncomputable def y426 (P : Params) : Obj := ⟨(.type "tuple"), none, (.seq ⟨[]⟩ 0), ⟨[]⟩⟩
noncomputable def y427 (P : Params) : Obj := ⟨.none, none, (.func (FuncData.mk z155 z155 (argsOf (stAt 47)) (FuncBody.stmts (bodyOf (stAt 47))) (scopeOf (stAt 47)) 0 [] .none .none .none .none none .none .none 0)), ⟨[]⟩⟩
noncomputable def y428 (P : Params) : Obj := ⟨(.type "code"), none, (.fields ⟨[(.str z155 756), (.str z155 757), (.str z1 758), (.int 410 0), (.int 1 0), (.int 0 0), (.int 0 0), (.int 3 0), (.ref 418), (.bool Bool.true), (.int 181 0), (.ref 419), .none, (.ref 420), (.ref 421), (.ref 422), (.int 766 0), (.int 410 0), (.str z1 767)]⟩), ⟨[]⟩⟩
noncomputable def y429 (P : Params) : Obj := ⟨(.type "function"), none, (.func (FuncData.mk z155 z155 (argsOf (stAt 47)) (FuncBody.stmts (bodyOf (stAt 47))) (scopeOf (stAt 47)) 3 [] .none .none .none (.str z154 754) none (.ref 423) .none 0)), ⟨[]⟩⟩
noncomputable def y430 (P : Params) : Obj := ⟨(.type "tuple"), none, (.seq ⟨[]⟩ 0), ⟨[]⟩⟩
noncomputable def y431 (P : Params) : Obj := ⟨.none, none, (.fields ⟨[]⟩), ⟨[]⟩⟩
noncomputable def y432 (P : Params) : Obj := ⟨(.type "tuple"), none, (.seq ⟨[(.str z167 772), (.str z168 773), (.str z169 774)]⟩ 0), ⟨[]⟩⟩
noncomputable def y433 (P : Params) : Obj := ⟨(.type "tuple"), none, (.seq ⟨[]⟩ 0), ⟨[]⟩⟩
noncomputable def y434 (P : Params) : Obj := ⟨.none, none, (.func (FuncData.mk z156 z156 (argsOf (stAt 48)) (FuncBody.stmts (bodyOf (stAt 48))) (scopeOf (stAt 48)) 0 [] .none .none .none .none none .none .none 0)), ⟨[]⟩⟩
noncomputable def y435 (P : Params) : Obj := ⟨(.type "code"), none, (.fields ⟨[(.str z156 769), (.str z156 770), (.str z1 771), (.int 425 0), (.int 2 0), (.int 0 0), (.int 0 0), (.int 3 0), (.ref 425), (.bool Bool.true), (.int 181 0), (.ref 426), .none, (.ref 427), (.ref 428), (.ref 429), (.int 775 0), (.int 425 0), (.str z1 776)]⟩), ⟨[]⟩⟩
noncomputable def y436 (P : Params) : Obj := ⟨(.type "function"), none, (.func (FuncData.mk z156 z156 (argsOf (stAt 48)) (FuncBody.stmts (bodyOf (stAt 48))) (scopeOf (stAt 48)) 3 [] .none .none .none (.str z154 754) none (.ref 430) .none 0)), ⟨[]⟩⟩
noncomputable def y437 (P : Params) : Obj := ⟨(.type "tuple"), none, (.seq ⟨[]⟩ 0), ⟨[]⟩⟩
noncomputable def y438 (P : Params) : Obj := ⟨.none, none, (.fields ⟨[]⟩), ⟨[]⟩⟩
noncomputable def y439 (P : Params) : Obj := ⟨(.type "tuple"), none, (.seq ⟨[(.str z167 781), (.str z170 782), (.str z28 783), (.str z166 784), (.str z27 785)]⟩ 0), ⟨[]⟩⟩
noncomputable def y440 (P : Params) : Obj := ⟨(.type "tuple"), none, (.seq ⟨[]⟩ 0), ⟨[]⟩⟩
noncomputable def y441 (P : Params) : Obj := ⟨.none, none, (.func (FuncData.mk z157 z157 (argsOf (stAt 49)) (FuncBody.stmts (bodyOf (stAt 49))) (scopeOf (stAt 49)) 0 [] .none .none .none .none none .none .none 0)), ⟨[]⟩⟩
noncomputable def y442 (P : Params) : Obj := ⟨(.type "code"), none, (.fields ⟨[(.str z157 778), (.str z157 779), (.str z1 780), (.int 435 0), (.int 1 0), (.int 0 0), (.int 0 0), (.int 3 0), (.ref 432), (.bool Bool.true), (.int 181 0), (.ref 433), .none, (.ref 434), (.ref 435), (.ref 436), (.int 786 0), (.int 435 0), (.str z1 787)]⟩), ⟨[]⟩⟩
noncomputable def y443 (P : Params) : Obj := ⟨(.type "function"), none, (.func (FuncData.mk z157 z157 (argsOf (stAt 49)) (FuncBody.stmts (bodyOf (stAt 49))) (scopeOf (stAt 49)) 3 [] .none .none .none (.str z154 754) none (.ref 437) .none 0)), ⟨[]⟩⟩
noncomputable def y444 (P : Params) : Obj := ⟨(.type "tuple"), none, (.seq ⟨[]⟩ 0), ⟨[]⟩⟩
noncomputable def y445 (P : Params) : Obj := ⟨.none, none, (.fields ⟨[]⟩), ⟨[]⟩⟩
noncomputable def y446 (P : Params) : Obj := ⟨.none, none, (.func (FuncData.mk z158 z158 (argsOf (stAt 50)) (FuncBody.stmts (bodyOf (stAt 50))) (scopeOf (stAt 50)) 0 [] .none .none .none .none none .none .none 0)), ⟨[]⟩⟩
noncomputable def y447 (P : Params) : Obj := ⟨(.type "code"), none, (.fields ⟨[(.str z158 789), (.str z158 790), (.str z1 791), (.int 451 0), (.int 1 0), (.int 0 0), (.int 0 0), (.int 3 0), (.ref 439), (.bool Bool.true), (.int 181 0), (.ref 440), .none, .none, .none, (.ref 441), (.int 792 0), (.int 451 0), (.str z1 793)]⟩), ⟨[]⟩⟩
noncomputable def y448 (P : Params) : Obj := ⟨(.type "function"), none, (.func (FuncData.mk z158 z158 (argsOf (stAt 50)) (FuncBody.stmts (bodyOf (stAt 50))) (scopeOf (stAt 50)) 3 [] .none .none .none (.str z154 754) none (.ref 442) .none 0)), ⟨[]⟩⟩
noncomputable def y449 (P : Params) : Obj := ⟨(.type "tuple"), none, (.seq ⟨[]⟩ 0), ⟨[]⟩⟩
noncomputable def y450 (P : Params) : Obj := ⟨.none, none, (.fields ⟨[]⟩), ⟨[]⟩⟩
noncomputable def y451 (P : Params) : Obj := ⟨.none, none, (.func (FuncData.mk z159 z159 (argsOf (stAt 51)) (FuncBody.stmts (bodyOf (stAt 51))) (scopeOf (stAt 51)) 0 [] .none .none .none .none none .none .none 0)), ⟨[]⟩⟩
noncomputable def y452 (P : Params) : Obj := ⟨(.type "code"), none, (.fields ⟨[(.str z159 795), (.str z159 796), (.str z1 797), (.int 460 0), (.int 1 0), (.int 0 0), (.int 0 0), (.int 3 0), (.ref 444), (.bool Bool.true), (.int 181 0), (.ref 445), .none, .none, .none, (.ref 446), (.int 798 0), (.int 460 0), (.str z1 799)]⟩), ⟨[]⟩⟩
noncomputable def y453 (P : Params) : Obj := ⟨(.type "function"), none, (.func (FuncData.mk z159 z159 (argsOf (stAt 51)) (FuncBody.stmts (bodyOf (stAt 51))) (scopeOf (stAt 51)) 3 [] .none .none .none (.str z154 754) none (.ref 447) .none 0)), ⟨[]⟩⟩
noncomputable def t7 (P : Params) : BT := (.node (boot_o_0 P) (.node (boot_o_1 P) (.node (y421 P) (.node (boot_o_7 P) (.node (y6 P) (.node (y22 P) (.node (y54 P) (.node (y121 P) (.node (y254 P) .nil .nil) (.node (y386 P) .nil .nil)) (.node (y190 P) (.node (y322 P) .nil .nil) (.node (y452 P) .nil .nil))) (.node (y86 P) (.node (y156 P) (.node (y290 P) .nil .nil) (.node (y418 P) .nil .nil)) (.node (y222 P) (.node (y354 P) .nil .nil) .nil))) (.node (y38 P) (.node (y70 P) (.node (y140 P) (.node (y272 P) .nil .nil) (.node (y402 P) .nil .nil)) (.node (y206 P) (.node (y338 P) .nil .nil) .nil)) (.node (y105 P) (.node (y174 P) (.node (y306 P) .nil .nil) (.node (y436 P) .nil .nil)) (.node (y238 P) (.node (y370 P) .nil .nil) .nil)))) (.node (y14 P) (.node (y30 P) (.node (y62 P) (.node (y135 P) (.node (y264 P) .nil .nil) (.node (y394 P) .nil .nil)) (.node (y198 P) (.node (y330 P) .nil .nil) .nil)) (.node (y97 P) (.node (y164 P) (.node (y298 P) .nil .nil) (.node (y428 P) .nil .nil)) (.node (y230 P) (.node (y362 P) .nil .nil) .nil))) (.node (y46 P) (.node (y78 P) (.node (y148 P) (.node (y282 P) .nil .nil) (.node (y410 P) .nil .nil)) (.node (y214 P) (.node (y346 P) .nil .nil) .nil)) (.node (y113 P) (.node (y182 P) (.node (y314 P) .nil .nil) (.node (y444 P) .nil .nil)) (.node (y246 P) (.node (y378 P) .nil .nil) .nil))))) (.node (y0 P) (.node (y10 P) (.node (y26 P) (.node (y58 P) (.node (y125 P) (.node (y258 P) .nil .nil) (.node (y390 P) .nil .nil)) (.node (y194 P) (.node (y326 P) .nil .nil) .nil)) (.node (y93 P) (.node (y160 P) (.node (y294 P) .nil .nil) (.node (y424 P) .nil .nil)) (.node (y226 P) (.node (y358 P) .nil .nil) .nil))) (.node (y42 P) (.node (y74 P) (.node (y144 P) (.node (y276 P) .nil .nil) (.node (y406 P) .nil .nil)) (.node (y210 P) (.node (y342 P) .nil .nil) .nil)) (.node (y109 P) (.node (y178 P) (.node (y310 P) .nil .nil) (.node (y440 P) .nil .nil)) (.node (y242 P) (.node (y374 P) .nil .nil) .nil)))) (.node (y18 P) (.node (y34 P) (.node (y66 P) (.node (y136 P) (.node (y268 P) .nil .nil) (.node (y398 P) .nil .nil)) (.node (y202 P) (.node (y334 P) .nil .nil) .nil)) (.node (y101 P) (.node (y168 P) (.node (y302 P) .nil .nil) (.node (y432 P) .nil .nil)) (.node (y234 P) (.node (y366 P) .nil .nil) .nil))) (.node (y50 P) (.node (y82 P) (.node (y152 P) (.node (y286 P) .nil .nil) (.node (y414 P) .nil .nil)) (.node (y218 P) (.node (y350 P) .nil .nil) .nil)) (.node (y117 P) (.node (y186 P) (.node (y318 P) .nil .nil) (.node (y448 P) .nil .nil)) (.node (y250 P) (.node (y382 P) .nil .nil) .nil)))))) (.node (boot_o_5 P) (.node (boot_o_9 P) (.node (y8 P) (.node (y24 P) (.node (y56 P) (.node (y123 P) (.node (y256 P) .nil .nil) (.node (y388 P) .nil .nil)) (.node (y192 P) (.node (y324 P) .nil .nil) .nil)) (.node (y91 P) (.node (y158 P) (.node (y292 P) .nil .nil) (.node (y420 P) .nil .nil)) (.node (y224 P) (.node (y356 P) .nil .nil) .nil))) (.node (y40 P) (.node (y72 P) (.node (y142 P) (.node (y274 P) .nil .nil) (.node (y404 P) .nil .nil)) (.node (y208 P) (.node (y340 P) .nil .nil) .nil)) (.node (y107 P) (.node (y176 P) (.node (y308 P) .nil .nil) (.node (y438 P) .nil .nil)) (.node (y240 P) (.node (y372 P) .nil .nil) .nil)))) (.node (y16 P) (.node (y32 P) (.node (y64 P) (.node (y131 P) (.node (y266 P) .nil .nil) (.node (y396 P) .nil .nil)) (.node (y200 P) (.node (y332 P) .nil .nil) .nil)) (.node (y99 P) (.node (y166 P) (.node (y300 P) .nil .nil) (.node (y430 P) .nil .nil)) (.node (y232 P) (.node (y364 P) .nil .nil) .nil))) (.node (y48 P) (.node (y80 P) (.node (y150 P) (.node (y284 P) .nil .nil) (.node (y412 P) .nil .nil)) (.node (y216 P) (.node (y348 P) .nil .nil) .nil)) (.node (y115 P) (.node (y184 P) (.node (y316 P) .nil .nil) (.node (y446 P) .nil .nil)) (.node (y248 P) (.node (y380 P) .nil .nil) .nil))))) (.node (y2 P) (.node (y12 P) (.node (y28 P) (.node (y60 P) (.node (y127 P) (.node (y260 P) .nil .nil) (.node (y392 P) .nil .nil)) (.node (y196 P) (.node (y328 P) .nil .nil) .nil)) (.node (y95 P) (.node (y162 P) (.node (y296 P) .nil .nil) (.node (y426 P) .nil .nil)) (.node (y228 P) (.node (y360 P) .nil .nil) .nil))) (.node (y44 P) (.node (y76 P) (.node (y146 P) (.node (y280 P) .nil .nil) (.node (y408 P) .nil .nil)) (.node (y212 P) (.node (y344 P) .nil .nil) .nil)) (.node (y111 P) (.node (y180 P) (.node (y312 P) .nil .nil) (.node (y442 P) .nil .nil)) (.node (y244 P) (.node (y376 P) .nil .nil) .nil)))) (.node (y20 P) (.node (y36 P) (.node (y68 P) (.node (y138 P) (.node (y270 P) .nil .nil) (.node (y400 P) .nil .nil)) (.node (y204 P) (.node (y336 P) .nil .nil) .nil)) (.node (y103 P) (.node (y172 P) (.node (y304 P) .nil .nil) (.node (y434 P) .nil .nil)) (.node (y236 P) (.node (y368 P) .nil .nil) .nil))) (.node (y52 P) (.node (y84 P) (.node (y154 P) (.node (y288 P) .nil .nil) (.node (y416 P) .nil .nil)) (.node (y220 P) (.node (y352 P) .nil .nil) .nil)) (.node (y119 P) (.node (y188 P) (.node (y320 P) .nil .nil) (.node (y450 P) .nil .nil)) (.node (y252 P) (.node (y384 P) .nil .nil) .nil))))))) (.node (y88 P) (.node (boot_o_4 P) (.node (boot_o_8 P) (.node (y7 P) (.node (y23 P) (.node (y55 P) (.node (y122 P) (.node (y255 P) .nil .nil) (.node (y387 P) .nil .nil)) (.node (y191 P) (.node (y323 P) .nil .nil) (.node (y453 P) .nil .nil))) (.node (y87 P) (.node (y157 P) (.node (y291 P) .nil .nil) (.node (y419 P) .nil .nil)) (.node (y223 P) (.node (y355 P) .nil .nil) .nil))) (.node (y39 P) (.node (y71 P) (.node (y141 P) (.node (y273 P) .nil .nil) (.node (y403 P) .nil .nil)) (.node (y207 P) (.node (y339 P) .nil .nil) .nil)) (.node (y106 P) (.node (y175 P) (.node (y307 P) .nil .nil) (.node (y437 P) .nil .nil)) (.node (y239 P) (.node (y371 P) .nil .nil) .nil)))) (.node (y15 P) (.node (y31 P) (.node (y63 P) (.node (y130 P) (.node (y265 P) .nil .nil) (.node (y395 P) .nil .nil)) (.node (y199 P) (.node (y331 P) .nil .nil) .nil)) (.node (y98 P) (.node (y165 P) (.node (y299 P) .nil .nil) (.node (y429 P) .nil .nil)) (.node (y231 P) (.node (y363 P) .nil .nil) .nil))) (.node (y47 P) (.node (y79 P) (.node (y149 P) (.node (y283 P) .nil .nil) (.node (y411 P) .nil .nil)) (.node (y215 P) (.node (y347 P) .nil .nil) .nil)) (.node (y114 P) (.node (y183 P) (.node (y315 P) .nil .nil) (.node (y445 P) .nil .nil)) (.node (y247 P) (.node (y379 P) .nil .nil) .nil))))) (.node (y422 P) (.node (y11 P) (.node (y27 P) (.node (y59 P) (.node (y126 P) (.node (y259 P) .nil .nil) (.node (y391 P) .nil .nil)) (.node (y195 P) (.node (y327 P) .nil .nil) .nil)) (.node (y94 P) (.node (y161 P) (.node (y295 P) .nil .nil) (.node (y425 P) .nil .nil)) (.node (y227 P) (.node (y359 P) .nil .nil) .nil))) (.node (y43 P) (.node (y75 P) (.node (y145 P) (.node (y277 P) .nil .nil) (.node (y407 P) .nil .nil)) (.node (y211 P) (.node (y343 P) .nil .nil) .nil)) (.node (y110 P) (.node (y179 P) (.node (y311 P) .nil .nil) (.node (y441 P) .nil .nil)) (.node (y243 P) (.node (y375 P) .nil .nil) .nil)))) (.node (y19 P) (.node (y35 P) (.node (y67 P) (.node (y137 P) (.node (y269 P) .nil .nil) (.node (y399 P) .nil .nil)) (.node (y203 P) (.node (y335 P) .nil .nil) .nil)) (.node (y102 P) (.node (y171 P) (.node (y303 P) .nil .nil) (.node (y433 P) .nil .nil)) (.node (y235 P) (.node (y367 P) .nil .nil) .nil))) (.node (y51 P) (.node (y83 P) (.node (y153 P) (.node (y287 P) .nil .nil) (.node (y415 P) .nil .nil)) (.node (y219 P) (.node (y351 P) .nil .nil) .nil)) (.node (y118 P) (.node (y187 P) (.node (y319 P) .nil .nil) (.node (y449 P) .nil .nil)) (.node (y251 P) (.node (y383 P) .nil .nil) .nil)))))) (.node (boot_o_6 P) (.node (boot_o_10 P) (.node (y9 P) (.node (y25 P) (.node (y57 P) (.node (y124 P) (.node (y257 P) .nil .nil) (.node (y389 P) .nil .nil)) (.node (y193 P) (.node (y325 P) .nil .nil) .nil)) (.node (y92 P) (.node (y159 P) (.node (y293 P) .nil .nil) (.node (y423 P) .nil .nil)) (.node (y225 P) (.node (y357 P) .nil .nil) .nil))) (.node (y41 P) (.node (y73 P) (.node (y143 P) (.node (y275 P) .nil .nil) (.node (y405 P) .nil .nil)) (.node (y209 P) (.node (y341 P) .nil .nil) .nil)) (.node (y108 P) (.node (y177 P) (.node (y309 P) .nil .nil) (.node (y439 P) .nil .nil)) (.node (y241 P) (.node (y373 P) .nil .nil) .nil)))) (.node (y17 P) (.node (y33 P) (.node (y65 P) (.node (y132 P) (.node (y267 P) .nil .nil) (.node (y397 P) .nil .nil)) (.node (y201 P) (.node (y333 P) .nil .nil) .nil)) (.node (y100 P) (.node (y167 P) (.node (y301 P) .nil .nil) (.node (y431 P) .nil .nil)) (.node (y233 P) (.node (y365 P) .nil .nil) .nil))) (.node (y49 P) (.node (y81 P) (.node (y151 P) (.node (y285 P) .nil .nil) (.node (y413 P) .nil .nil)) (.node (y217 P) (.node (y349 P) .nil .nil) .nil)) (.node (y116 P) (.node (y185 P) (.node (y317 P) .nil .nil) (.node (y447 P) .nil .nil)) (.node (y249 P) (.node (y381 P) .nil .nil) .nil))))) (.node (y3 P) (.node (y13 P) (.node (y29 P) (.node (y61 P) (.node (y128 P) (.node (y261 P) .nil .nil) (.node (y393 P) .nil .nil)) (.node (y197 P) (.node (y329 P) .nil .nil) .nil)) (.node (y96 P) (.node (y163 P) (.node (y297 P) .nil .nil) (.node (y427 P) .nil .nil)) (.node (y229 P) (.node (y361 P) .nil .nil) .nil))) (.node (y45 P) (.node (y77 P) (.node (y147 P) (.node (y281 P) .nil .nil) (.node (y409 P) .nil .nil)) (.node (y213 P) (.node (y345 P) .nil .nil) .nil)) (.node (y112 P) (.node (y181 P) (.node (y313 P) .nil .nil) (.node (y443 P) .nil .nil)) (.node (y245 P) (.node (y377 P) .nil .nil) .nil)))) (.node (y21 P) (.node (y37 P) (.node (y69 P) (.node (y139 P) (.node (y271 P) .nil .nil) (.node (y401 P) .nil .nil)) (.node (y205 P) (.node (y337 P) .nil .nil) .nil)) (.node (y104 P) (.node (y173 P) (.node (y305 P) .nil .nil) (.node (y435 P) .nil .nil)) (.node (y237 P) (.node (y369 P) .nil .nil) .nil))) (.node (y53 P) (.node (y85 P) (.node (y155 P) (.node (y289 P) .nil .nil) (.node (y417 P) .nil .nil)) (.node (y221 P) (.node (y353 P) .nil .nil) .nil)) (.node (y120 P) (.node (y189 P) (.node (y321 P) .nil .nil) (.node (y451 P) .nil .nil)) (.node (y253 P) (.node (y385 P) .nil .nil) .nil))))))))
noncomputable def pos7 : Pos := (Pos.mk 460 0 479 15)
noncomputable def hZ (P : Params) : Heap := ⟨⟨[boot_o_0 P, boot_o_1 P, y88 P, y421 P, boot_o_4 P, boot_o_5 P, boot_o_6 P, boot_o_7 P, boot_o_8 P, boot_o_9 P, boot_o_10 P, y0 P, y422 P, y2 P, y3 P, y6 P, y7 P, y8 P, y9 P, y10 P, y11 P, y12 P, y13 P, y14 P, y15 P, y16 P, y17 P, y18 P, y19 P, y20 P, y21 P, y22 P, y23 P, y24 P, y25 P, y26 P, y27 P, y28 P, y29 P, y30 P, y31 P, y32 P, y33 P, y34 P, y35 P, y36 P, y37 P, y38 P, y39 P, y40 P, y41 P, y42 P, y43 P, y44 P, y45 P, y46 P, y47 P, y48 P, y49 P, y50 P, y51 P, y52 P, y53 P, y54 P, y55 P, y56 P, y57 P, y58 P, y59 P, y60 P, y61 P, y62 P, y63 P, y64 P, y65 P, y66 P, y67 P, y68 P, y69 P, y70 P, y71 P, y72 P, y73 P, y74 P, y75 P, y76 P, y77 P, y78 P, y79 P, y80 P, y81 P, y82 P, y83 P, y84 P, y85 P, y86 P, y87 P, y91 P, y92 P, y93 P, y94 P, y95 P, y96 P, y97 P, y98 P, y99 P, y100 P, y101 P, y102 P, y103 P, y104 P, y105 P, y106 P, y107 P, y108 P, y109 P, y110 P, y111 P, y112 P, y113 P, y114 P, y115 P, y116 P, y117 P, y118 P, y119 P, y120 P, y121 P, y122 P, y123 P, y124 P, y125 P, y126 P, y127 P, y128 P, y135 P, y130 P, y131 P, y132 P, y136 P, y137 P, y138 P, y139 P, y140 P, y141 P, y142 P, y143 P, y144 P, y145 P, y146 P, y147 P, y148 P, y149 P, y150 P, y151 P, y152 P, y153 P, y154 P, y155 P, y156 P, y157 P, y158 P, y159 P, y160 P, y161 P, y162 P, y163 P, y164 P, y165 P, y166 P, y167 P, y168 P, y171 P, y172 P, y173 P, y174 P, y175 P, y176 P, y177 P, y178 P, y179 P, y180 P, y181 P, y182 P, y183 P, y184 P, y185 P, y186 P, y187 P, y188 P, y189 P, y190 P, y191 P, y192 P, y193 P, y194 P, y195 P, y196 P, y197 P, y198 P, y199 P, y200 P, y201 P, y202 P, y203 P, y204 P, y205 P, y206 P, y207 P, y208 P, y209 P, y210 P, y211 P, y212 P, y213 P, y214 P, y215 P, y216 P, y217 P, y218 P, y219 P, y220 P, y221 P, y222 P, y223 P, y224 P, y225 P, y226 P, y227 P, y228 P, y229 P, y230 P, y231 P, y232 P, y233 P, y234 P, y235 P, y236 P, y237 P, y238 P, y239 P, y240 P, y241 P, y242 P, y243 P, y244 P, y245 P, y246 P, y247 P, y248 P, y249 P, y250 P, y251 P, y252 P, y253 P, y254 P, y255 P, y256 P, y257 P, y258 P, y259 P, y260 P, y261 P, y264 P, y265 P, y266 P, y267 P, y268 P, y269 P, y270 P, y271 P, y272 P, y273 P, y274 P, y275 P, y276 P, y277 P, y280 P, y281 P, y282 P, y283 P, y284 P, y285 P, y286 P, y287 P, y288 P, y289 P, y290 P, y291 P, y292 P, y293 P, y294 P, y295 P, y296 P, y297 P, y298 P, y299 P, y300 P, y301 P, y302 P, y303 P, y304 P, y305 P, y306 P, y307 P, y308 P, y309 P, y310 P, y311 P, y312 P, y313 P, y314 P, y315 P, y316 P, y317 P, y318 P, y319 P, y320 P, y321 P, y322 P, y323 P, y324 P, y325 P, y326 P, y327 P, y328 P, y329 P, y330 P, y331 P, y332 P, y333 P, y334 P, y335 P, y336 P, y337 P, y338 P, y339 P, y340 P, y341 P, y342 P, y343 P, y344 P, y345 P, y346 P, y347 P, y348 P, y349 P, y350 P, y351 P, y352 P, y353 P, y354 P, y355 P, y356 P, y357 P, y358 P, y359 P, y360 P, y361 P, y362 P, y363 P, y364 P, y365 P, y366 P, y367 P, y368 P, y369 P, y370 P, y371 P, y372 P, y373 P, y374 P, y375 P, y376 P, y377 P, y378 P, y379 P, y380 P, y381 P, y382 P, y383 P, y384 P, y385 P, y386 P, y387 P, y388 P, y389 P, y390 P, y391 P, y392 P, y393 P, y394 P, y395 P, y396 P, y397 P, y398 P, y399 P, y400 P, y401 P, y402 P, y403 P, y404 P, y405 P, y406 P, y407 P, y408 P, y409 P, y410 P, y411 P, y412 P, y413 P, y414 P, y415 P, y416 P, y417 P, y418 P, y419 P, y420 P, y423 P, y424 P, y425 P, y426 P, y427 P, y428 P, y429 P, y430 P, y431 P, y432 P, y433 P, y434 P, y435 P, y436 P, y437 P, y438 P, y439 P, y440 P, y441 P, y442 P, y443 P, y444 P, y445 P, y446 P, y447 P, y448 P, y449 P, y450 P, y451 P, y452 P, y453 P]⟩, lifeA⟩

noncomputable abbrev noG : Array GenState := Array.mk []
noncomputable abbrev bE : List Stmt := behindTheImports pw
noncomputable abbrev cE : Code := .body bE env0
noncomputable abbrev annA : Option Value := some (.ref 6)
noncomputable abbrev frB : List Frame := [topFrame posF]
noncomputable abbrev grp (i k : Nat) : List Stmt := (pw.main.body.drop i).take k
noncomputable def st0 (w : World) (os : OsState) : SharedT := ⟨t0 w.params, 15, lifeA, noG, drawnA, 187, os⟩
noncomputable def st1 (w : World) (os : OsState) : SharedT := ⟨t1 w.params, 97, lifeA, noG, drawnA, 276, os⟩
noncomputable def st2 (w : World) (os : OsState) : SharedT := ⟨t2 w.params, 139, lifeA, noG, drawnA, 334, os⟩
noncomputable def st3 (w : World) (os : OsState) : SharedT := ⟨t3 w.params, 172, lifeA, noG, drawnA, 377, os⟩
noncomputable def st4 (w : World) (os : OsState) : SharedT := ⟨t4 w.params, 263, lifeA, noG, drawnA, 496, os⟩
noncomputable def st5 (w : World) (os : OsState) : SharedT := ⟨t5 w.params, 277, lifeA, noG, drawnA, 550, os⟩
noncomputable def st6 (w : World) (os : OsState) : SharedT := ⟨t6 w.params, 418, lifeA, noG, drawnA, 754, os⟩
noncomputable def st7 (w : World) (os : OsState) : SharedT := ⟨t7 w.params, 449, lifeA, noG, drawnA, 801, os⟩
theorem pA (w : World) (os : OsState) : topGo treeTable pw w 11 annA 12 ⟨boot_heap w.params, Array.mk [], boot_drawn, boot_toks, os⟩ (topStub pw) = some (⟨hA w.params, noG, drawnA, 187, os⟩, ⟨denote treeTable cE, cE, posA, frB⟩) := by kernel_rfl
theorem pB (w : World) (os : OsState) : segRun treeTable pw w 11 annA 1 1 ⟨hA w.params, noG, drawnA, 187, os⟩ (blockOf bE env0 cE posA frB) = some (.next, (st0 w os).abs, cE, posB) := by kernel_rfl
theorem p1 (w : World) (os : OsState) : segRunT treeTable pw w 11 annA 1 366 (st0 w os) (piecesOf (grp 0 14) env0 cE posB frB) = some (.next, st1 w os, cE, pos1) := by kernel_rfl
theorem p2q (w : World) (os : OsState) : PySem.W.Fast.tw10110043849684766642 PySem.W.Fast.tw14364793385576792824 pw w 11 annA 1 338 (st1 w os) (piecesOf (grp 14 7) env0 cE pos1 frB) = some (.next, st2 w os, cE, pos2) := by kernel_rfl
theorem p2 (w : World) (os : OsState) : segRunT treeTable pw w 11 annA 1 338 (st1 w os) (piecesOf (grp 14 7) env0 cE pos1 frB) = some (.next, st2 w os, cE, pos2) := by
  rw [PySem.W.Fast.te10110043849684766642, PySem.W.Fast.te14364793385576792824]
  exact p2q w os
theorem p3q (w : World) (os : OsState) : PySem.W.Fast.tw10110043849684766642 PySem.W.Fast.tw14364793385576792824 pw w 11 annA 1 308 (st2 w os) (piecesOf (grp 21 3) env0 cE pos2 frB) = some (.next, st3 w os, cE, pos3) := by kernel_rfl
theorem p3 (w : World) (os : OsState) : segRunT treeTable pw w 11 annA 1 308 (st2 w os) (piecesOf (grp 21 3) env0 cE pos2 frB) = some (.next, st3 w os, cE, pos3) := by
  rw [PySem.W.Fast.te10110043849684766642, PySem.W.Fast.te14364793385576792824]
  exact p3q w os
theorem p4q (w : World) (os : OsState) : PySem.W.Fast.tw10110043849684766642 PySem.W.Fast.tw14364793385576792824 pw w 11 annA 1 553 (st3 w os) (piecesOf (grp 24 1) env0 cE pos3 frB) = some (.next, st4 w os, cE, pos4) := by kernel_rfl
theorem p4 (w : World) (os : OsState) : segRunT treeTable pw w 11 annA 1 553 (st3 w os) (piecesOf (grp 24 1) env0 cE pos3 frB) = some (.next, st4 w os, cE, pos4) := by
  rw [PySem.W.Fast.te10110043849684766642, PySem.W.Fast.te14364793385576792824]
  exact p4q w os
theorem p5 (w : World) (os : OsState) : segRunT treeTable pw w 11 annA 1 233 (st4 w os) (piecesOf (grp 25 20) env0 cE pos4 frB) = some (.next, st5 w os, cE, pos5) := by kernel_rfl
theorem p6q (w : World) (os : OsState) : PySem.W.Fast.tw10110043849684766642 PySem.W.Fast.tw14364793385576792824 pw w 11 annA 1 807 (st5 w os) (piecesOf (grp 45 1) env0 cE pos5 frB) = some (.next, st6 w os, cE, pos6) := by kernel_rfl
theorem p6 (w : World) (os : OsState) : segRunT treeTable pw w 11 annA 1 807 (st5 w os) (piecesOf (grp 45 1) env0 cE pos5 frB) = some (.next, st6 w os, cE, pos6) := by
  rw [PySem.W.Fast.te10110043849684766642, PySem.W.Fast.te14364793385576792824]
  exact p6q w os
theorem p7 (w : World) (os : OsState) : segRunT treeTable pw w 11 annA 1 161 (st6 w os) (piecesOf (grp 46 6) env0 cE pos6 frB) = some (.next, st7 w os, cE, pos7) := by kernel_rfl
theorem pZ (w : World) (os : OsState) : topRun treeTable pw w 11 annA 2 (st7 w os).abs ⟨doneF .next, cE, pos7, frB⟩ = some ⟨hZ w.params, noG, drawnA, 801, os⟩ := by kernel_rfl
end
section
open PySem PySem.W PyProof.Rows PySem.Calls
theorem grps : bE = grp 0 14 ++ (grp 14 7 ++ (grp 21 3 ++ (grp 24 1 ++ (grp 25 20 ++ (grp 45 1 ++ (grp 46 6 ++ [])))))) := by kernel_rfl
theorem run_ok (w : World) (os : OsState) : topRun treeTable pw w 11 annA (12 + (1 + (366 + (338 + (308 + (553 + (233 + (807 + (161 + 2))))))))) ⟨boot_heap w.params, Array.mk [], boot_drawn, boot_toks, os⟩ (topStub pw) = some ⟨hZ w.params, noG, drawnA, 801, os⟩ := by
  refine go_top (pA w os) (piece_block (pB w os) ?_)
  have e : restOf bE env0 cE posB frB = restOf (grp 0 14 ++ (grp 14 7 ++ (grp 21 3 ++ (grp 24 1 ++ (grp 25 20 ++ (grp 45 1 ++ (grp 46 6 ++ []))))))) env0 cE posB frB := congrArg (fun l => restOf l env0 cE posB frB) grps
  rw [e]
  exact piece_app (segRun_of (p1 w os)) (piece_app (segRun_of (p2 w os)) (piece_app (segRun_of (p3 w os)) (piece_app (segRun_of (p4 w os)) (piece_app (segRun_of (p5 w os)) (piece_app (segRun_of (p6 w os)) (piece_app (segRun_of (p7 w os)) (piece_nil (pZ w os))))))))
/-- the law alone -/
noncomputable def vq : Program := { pw with main := { pw.main with body := [stAt 51] } }
noncomputable def looseL : List Str := (globTab.map (·.1)).filter fun x => x != Str.ofString "law"
noncomputable def kAs : List Addr := 3 :: 118 :: 284 :: 257 :: 258 :: 412 :: 413 :: (frag1 ++ frag2).map (·.1)
theorem kAs_eq (P : Params) : kAs = (KK P).map (·.1) := by kernel_rfl
theorem open_ok : ∀ w : World, (fencedOpening treeTable pw w 5644).map (fun s => (s.heap, s.gens, s.drawn, s.toks)) = some (boot_heap w.params, Array.mk [], boot_drawn, boot_toks) :=
  boot_open (by kernel_rfl) (by decide) fun s => by kernel_rfl
theorem size_ok (w : World) : ((boot_heap w.params).isNs mainGlobals && (Array.mk [] : Array GenState).size == 0, (boot_heap w.params).objs.size, (boot_heap w.params).nsMap mainGlobals "__annotations__") = (true, 11, annA) := by kernel_rfl
theorem look1 (w : World) (os : OsState) : (staticsOk (importedModules pw.main.body) (boot_heap w.params) (hZ w.params) && namesBound pw (hZ w.params) && gensDone ⟨hZ w.params, noG, drawnA, 801, os⟩ && laidKept (boot_heap w.params) (hZ w.params)) = true := by kernel_rfl
theorem look2 (w : World) (os : OsState) : openSeen vq looseL (importedModules pw.main.body) (fun _ => true) true ⟨hZ w.params, noG, drawnA, 801, os⟩ = openGood vq looseL := by kernel_rfl
theorem look3 (w : World) (os : OsState) : kAs.map (hZ w.params).get? = (KK w.params).map fun p => some p.2 := by kernel_rfl
theorem left_ok : LeftO pw vq looseL (fun _ => true) (fun s => kAs.map s.heap.get?) (fun w => (KK w.params).map fun p => some p.2) 5644 :=
  LeftO.of_pieces open_ok size_ok run_ok (by decide) fun w => funext fun os => Prod.ext (look1 w os) (Prod.ext (look2 w os) (look3 w os))
end
section
open PySem PySem.W PyProof.Rows PySem.Calls
theorem said_ok : OpenLaw.wellSaid PySem.Challenge.rw_no0173_01 = true := by
  unfold OpenLaw.wellSaid OpenRow.wellSaid OpenRow.partSaid
  repeat' (with_reducible refine look_both ?_ ?_)
  all_goals (first | (unfold looksOpen; repeat' (with_reducible refine look_both ?_ ?_)) | skip)
  all_goals decide +kernel
theorem frees_ok : (chainsOk vq && opensWell PySem.Challenge.rw_no0173_01.row.prog && (frees PySem.Challenge.rw_no0173_01.row.toRowW && PySem.Challenge.rw_no0173_01.row.within.isEmpty)) = true := by kernel_rfl
theorem bare_ok : PySem.Challenge.rw_no0173_01.row.prog.bare := ⟨rfl, rfl, rfl, rfl, rfl, by decide +kernel⟩
theorem prom_ok : PySem.Challenge.rw_no0173_01.row.toRowW.promised := ⟨[.list [.int 0]], by decide +kernel, by decide +kernel⟩
noncomputable def posOf : Stmt → Pos
  | .FunctionDef _ _ _ _ _ _ _ _ _ p => p
  | _ => ⟨0, 0, 0, 0⟩
/-- the walk is all that is left -/
theorem head_ok (hc : WalkO vq looseL (fun _ _ => True) (InK KK) PySem.Challenge.rw_no0173_01.row.toRowW ⟨Str.ofString "law", argsOf (stAt 51), bodyOf (stAt 51), scopeOf (stAt 51), posOf (stAt 51)⟩ [] fun f vs => PySem.call f vs) : PySem.Challenge.rw_no0173_01.Holds :=
  holds_law said_ok fun said => PySem.W.holds_open (α := List (Option Obj)) (q := vq) (loose := looseL) (Xt := fun _ => true) (XP := fun _ _ => True) (Yf := fun s : Shared => kAs.map s.heap.get?) (Ya := fun w : World => (KK w.params).map fun p : Addr × Obj => some p.2) (YP := InK KK) (N := 5644) left_ok (fun w s e => InK.of kAs_eq w s e) InK.keeps (fun _ _ => trivial) (fun _ _ _ _ _ => trivial) (by rfl) (by rfl) (by rfl) (fun s e => recFacts_nil rfl) (by rfl) said frees_ok bare_ok prom_ok hc
end
section
open PySem PySem.W PyProof.Rows
noncomputable def Imm (o : Obj) : Prop := (∃ xs n, o.data = .seq xs n ∧ o.cls = .type "tuple") ∨ (∃ vs, o.data = .fields vs ∧ o.cls = .type "range")

mutual
/-- a value as the heap bears it -/
inductive Rel (B h : Heap) : PV → Value → Prop
  | none : Rel B h .none .none
  | bool (b : Bool) : Rel B h (.bool b) (.bool b)
  | int (i : Int) (t : Tok) : Rel B h (.int i) (.int i t)
  | str (s : Str) (t : Tok) : Rel B h (.str s) (.str s t)
  | ref (a : Addr) : Rel B h (.ref a) (.ref a)
  | con (v : Value) : Rel B h (.con v) v
  | rng {a : Addr} {n : Int} {t u v : Tok} : IsRange h a 0 n 1 t u v → n.natAbs < 2 ^ 62 → Rel B h (.rng n) (.ref a)
  | tup {a : Addr} {its : Array Value} {xs : List PV} : h.IsTuple a its → RelL B h xs its.toList → Rel B h (.tup xs) (.ref a)
  | blist {a : Addr} {vs : List Value} {ns : List Int} : B.IsList a vs.toArray → IntsAre vs ns → Rel B h (.blist ns) (.ref a)
inductive RelL (B h : Heap) : List PV → List Value → Prop
  | nil : RelL B h [] []
  | cons {p : PV} {v : Value} {ps : List PV} {vs : List Value} : Rel B h p v → RelL B h ps vs → RelL B h (p :: ps) (v :: vs)
end

mutual
theorem Rel.mono {B h h' : Heap} (k : ∀ b o, Imm o → h.get? b = some o → h'.get? b = some o) : ∀ {p v}, Rel B h p v → Rel B h' p v
  | _, _, .none => .none
  | _, _, .bool b => .bool b
  | _, _, .int i t => .int i t
  | _, _, .str s t => .str s t
  | _, _, .ref a => .ref a
  | _, _, .con v => .con v
  | _, _, .rng e q => .rng (k _ _ (.inr ⟨_, rfl, rfl⟩) e) q
  | _, _, .tup ⟨o, ho, hc, n, hd⟩ r => .tup ⟨o, k _ _ (.inl ⟨_, _, hd, hc⟩) ho, hc, n, hd⟩ (RelL.mono k r)
  | _, _, .blist l i => .blist l i
theorem RelL.mono {B h h' : Heap} (k : ∀ b o, Imm o → h.get? b = some o → h'.get? b = some o) : ∀ {ps vs}, RelL B h ps vs → RelL B h' ps vs
  | _, _, .nil => .nil
  | _, _, .cons a r => .cons (Rel.mono k a) (RelL.mono k r)
end

theorem RelL.nil_eq {B h : Heap} {vs : List Value} (r : RelL B h [] vs) : vs = [] := by cases r; rfl
theorem RelL.length {B h : Heap} : ∀ {ps : List PV} {vs : List Value}, RelL B h ps vs → ps.length = vs.length
  | _, _, .nil => rfl
  | _, _, .cons _ r => by rw [List.length_cons, List.length_cons, RelL.length r]
theorem RelL.get {B h : Heap} : ∀ {ps : List PV} {vs : List Value} (i : Nat) {p : PV}, RelL B h ps vs → ps[i]? = some p → ∃ v, vs[i]? = some v ∧ Rel B h p v
  | _, _, i, _, .nil, e => by simp at e
  | _, _, 0, _, .cons a _, e => by simp at e; subst e; exact ⟨_, by simp, a⟩
  | _, _, i + 1, _, .cons _ r, e => by simp at e; obtain ⟨v, h1, h2⟩ := RelL.get i r e; exact ⟨v, by simpa using h1, h2⟩
theorem RelL.getV {B h : Heap} : ∀ {ps : List PV} {vs : List Value} (i : Nat) {v : Value}, RelL B h ps vs → vs[i]? = some v → ∃ p, ps[i]? = some p ∧ Rel B h p v
  | _, _, i, _, .nil, e => by simp at e
  | _, _, 0, _, .cons a _, e => by simp at e; subst e; exact ⟨_, by simp, a⟩
  | _, _, i + 1, _, .cons _ r, e => by simp at e; obtain ⟨v, h1, h2⟩ := RelL.getV i r e; exact ⟨v, by simpa using h1, h2⟩
theorem RelL.append {B h : Heap} : ∀ {ps qs : List PV} {vs us : List Value}, RelL B h ps vs → RelL B h qs us → RelL B h (ps ++ qs) (vs ++ us)
  | _, _, _, _, .nil, r => r
  | _, _, _, _, .cons a q, r => .cons a (RelL.append q r)
theorem RelL.set {B h : Heap} : ∀ {ps : List PV} {vs : List Value} (i : Nat) {p : PV} {v : Value}, RelL B h ps vs → Rel B h p v → RelL B h (ps.set i p) (vs.set i v)
  | _, _, _, _, _, .nil, _ => .nil
  | _, _, 0, _, _, .cons _ r, q => .cons q r
  | _, _, i + 1, _, _, .cons a r, q => .cons a (RelL.set i r q)
theorem RelL.take {B h : Heap} : ∀ {ps : List PV} {vs : List Value} (i : Nat), RelL B h ps vs → RelL B h (ps.take i) (vs.take i)
  | _, _, 0, _ => by simpa using .nil
  | _, _, i + 1, .nil => by simpa using .nil
  | _, _, i + 1, .cons a r => .cons a (RelL.take i r)
theorem RelL.drop {B h : Heap} : ∀ {ps : List PV} {vs : List Value} (i : Nat), RelL B h ps vs → RelL B h (ps.drop i) (vs.drop i)
  | _, _, 0, r => r
  | _, _, i + 1, .nil => .nil
  | _, _, i + 1, .cons _ r => RelL.drop i r

inductive FldsAre (B h : Heap) : List (Str × PV) → List DictEntry → Prop
  | nil : FldsAre B h [] []
  | cons {n : Str} {p : PV} {hs : Int} {t : Tok} {v : Value} {fs : List (Str × PV)} {es : List DictEntry} : Rel B h p v → FldsAre B h fs es → FldsAre B h ((n, p) :: fs) (⟨hs, .str n t, v⟩ :: es)
theorem FldsAre.mono {B h h' : Heap} (k : ∀ b o, Imm o → h.get? b = some o → h'.get? b = some o) : ∀ {fs es}, FldsAre B h fs es → FldsAre B h' fs es
  | _, _, .nil => .nil
  | _, _, .cons a r => .cons (Rel.mono k a) (FldsAre.mono k r)

noncomputable def OptRel (B h : Heap) : Option PV → Option Value → Prop
  | some p, some v => Rel B h p v
  | none, none => True
  | _, _ => False
theorem OptRel.mono {B h h' : Heap} (k : ∀ b o, Imm o → h.get? b = some o → h'.get? b = some o) : ∀ {p v}, OptRel B h p v → OptRel B h' p v
  | some _, some _, r => Rel.mono k r
  | none, none, _ => trivial
  | some _, none, r => r.elim
  | none, some _, r => r.elim

/-- an object as the heap bears it -/
noncomputable def ORel (w : World) (B h : Heap) (a : Addr) : AO → Prop
  | .list xs => ∃ vs, h.PlainList a vs ∧ RelL B h xs vs.toList
  | .inst C dx => h.get? a = some { cls := .ref C, dict := some dx, data := .plain, slots := #[] }
  | .flds fs => ∃ es n, h.get? a = some (dictOf es n) ∧ FldsAre B h fs es
  | .edict => h.get? a = some (dictOf [] 0)
  | .sdict m f => ∃ kvs, h.DictOf (strKind pw w) a kvs ∧ kvs.length ≤ m ∧ ∀ k, OptRel B h (f k) (valueAt kvs k)
  | .tdict m f => ∃ xs, h.DictOfH (tupleKind (intKind pw w)) a xs ∧ xs.length ≤ m ∧ ∀ k, OptRel B h (f k) ((atKey xs k).map (·.2))

theorem ORel.ob {w : World} {B h : Heap} {a : Addr} {o : AO} (x : ORel w B h a o) : ∃ ob, h.get? a = some ob ∧ ¬ Imm ob := by
  cases o with
  | list xs =>
    obtain ⟨vs, ⟨n, e⟩, _⟩ := x
    refine ⟨_, e, ?_⟩
    rintro (⟨_, _, _, q⟩ | ⟨_, q, _⟩)
    · exact absurd (Value.type.inj q) (by decide)
    · cases q
  | inst C dx => exact ⟨_, x, by rintro (⟨_, _, q, _⟩ | ⟨_, q, _⟩) <;> cases q⟩
  | flds fs => obtain ⟨es, n, e, _⟩ := x; exact ⟨_, e, by rintro (⟨_, _, q, _⟩ | ⟨_, q, _⟩) <;> cases q⟩
  | edict => exact ⟨_, x, by rintro (⟨_, _, q, _⟩ | ⟨_, q, _⟩) <;> cases q⟩
  | sdict m f => obtain ⟨g, ⟨o, es, ep, e, hx, hd, _⟩, _⟩ := x; exact ⟨_, e, by rintro (⟨_, _, q, _⟩ | ⟨_, q, _⟩) <;> rw [hd] at q <;> cases q⟩
  | tdict m f => obtain ⟨xs, ⟨o, es, ep, e, hx, hd, _⟩, _⟩ := x; exact ⟨_, e, by rintro (⟨_, _, q, _⟩ | ⟨_, q, _⟩) <;> rw [hd] at q <;> cases q⟩

theorem ORel.mono {w : World} {B h h' : Heap} {a : Addr} {o : AO} (k : ∀ b o, Imm o → h.get? b = some o → h'.get? b = some o) (ka : ∀ ob, h.get? a = some ob → h'.get? a = some ob) (x : ORel w B h a o) : ORel w B h' a o := by
  cases o with
  | list xs => obtain ⟨vs, ⟨n, e⟩, r⟩ := x; exact ⟨vs, ⟨n, ka _ e⟩, r.mono k⟩
  | inst C dx => exact ka _ x
  | flds fs => obtain ⟨es, n, e, r⟩ := x; exact ⟨es, n, ka _ e, r.mono k⟩
  | edict => exact ka _ x
  | sdict m f =>
    obtain ⟨g, ⟨o, es, ep, e, r⟩, hl, hr⟩ := x
    exact ⟨g, ⟨o, es, ep, ka _ e, r⟩, hl, fun q => (hr q).mono k⟩
  | tdict m f =>
    obtain ⟨xs, ⟨o, es, ep, e, hx, hd, hm, hk, hn⟩, hl, hr⟩ := x
    refine ⟨xs, ⟨o, es, ep, ka _ e, hx, hd, hm, fun p hp => ?_, hn⟩, hl, fun q => (hr q).mono k⟩
    obtain ⟨o', its, n, ho', hc', hd', hi⟩ := hk p hp
    exact ⟨o', its, n, k _ _ (.inl ⟨_, _, hd', hc'⟩) ho', hc', hd', hi⟩

structure Inv (w : World) (B : Heap) (σ : Sg) (h : Heap) : Prop where
  base : ∀ b o, B.get? b = some o → h.get? b = some o
  own : ∀ a o, σ a = some o → (B.get? a = none ∧ (isD o = true → B.objs.size ≤ a)) ∧ ORel w B h a o
theorem Inv.there {w : World} {B h : Heap} {σ : Sg} {a : Addr} {o : AO} (I : Inv w B σ h) (e : σ a = some o) : ∃ ob, h.get? a = some ob := let ⟨ob, e, _⟩ := (I.own a o e).2.ob; ⟨ob, e⟩
theorem Inv.none_at {w : World} {B h : Heap} {σ : Sg} {a : Addr} (I : Inv w B σ h) (e : h.get? a = none) : σ a = none := by
  cases q : σ a with
  | none => rfl
  | some o => obtain ⟨ob, h1⟩ := I.there q; rw [e] at h1; cases h1
theorem Inv.notImm {w : World} {B h : Heap} {σ : Sg} {a : Addr} {o : AO} {ob : Obj} (I : Inv w B σ h) (e : σ a = some o) (ho : h.get? a = some ob) : ¬ Imm ob := by
  obtain ⟨o', h1, h2⟩ := (I.own a o e).2.ob
  rw [ho] at h1; cases h1; exact h2
theorem Inv.new {w : World} {B h : Heap} {σ : Sg} {a : Addr} (I : Inv w B σ h) (e : h.get? a = none) : B.get? a = none := by
  cases q : B.get? a with
  | none => rfl
  | some o => rw [I.base a o q] at e; cases e
theorem Inv.newB {w : World} {B h : Heap} {σ : Sg} {a : Addr} {o : AO} (I : Inv w B σ h) (e : σ a = some o) : B.get? a = none := by
  exact (I.own a o e).1.1
theorem get_size (h : Heap) : h.get? h.objs.size = none := by
  cases q : h.get? h.objs.size with
  | none => rfl
  | some o => exact absurd (Heap.lt_size q) (Nat.lt_irrefl _)

theorem get_above {h : Heap} {a : Addr} (e : h.objs.size ≤ a) : h.get? a = none := by
  cases q : h.get? a with
  | none => rfl
  | some o => exact absurd (Heap.lt_size q) (Nat.not_lt.mpr e)
theorem ns_unique {h : Heap} {a : Addr} {m m' : Str → Option Value} (x : h.Ns a m) (y : h.Ns a m') : m = m' := by
  obtain ⟨o, es, ep, e, d, _, f⟩ := x
  obtain ⟨o', es', ep', e', d', _, f'⟩ := y
  rw [e] at e'; cases e'
  rw [d] at d'; cases d'
  funext n; rw [← f, ← f']

/-- what stands behind a step -/
structure Aft (w : World) (B : Heap) (σ σ' : Sg) (L : Addr) (cl : List Addr) (h h' : Heap) : Prop where
  inv : Inv w B σ' h'
  keep : ∀ b o, h.get? b = some o → (Imm o ∨ (b ≠ L ∧ b ∉ cl ∧ σ b = none)) → h'.get? b = some o
  alive : ∀ b o, h.get? b = some o → ∃ o', h'.get? b = some o'
  dom : ∀ b, σ' b ≠ none → σ b ≠ none ∨ h.get? b = none

section
variable {w : World} {B h h' h'' : Heap} {σ σ' σ'' : Sg} {L : Addr} {cl : List Addr}
theorem Aft.refl (I : Inv w B σ h) : Aft w B σ σ L cl h h := ⟨I, fun _ _ e _ => e, fun _ o e => ⟨o, e⟩, fun _ x => .inl x⟩
theorem Aft.imm (x : Aft w B σ σ' L cl h h') : ∀ b o, Imm o → h.get? b = some o → h'.get? b = some o := fun b o i e => x.keep b o e (.inl i)
theorem Aft.domN (x : Aft w B σ σ' L cl h h') {b : Addr} {o : Obj} (e : h.get? b = some o) (q : σ b = none) : σ' b = none := by
  cases z : σ' b with
  | none => rfl
  | some u => exact absurd (x.dom b (by rw [z]; exact nofun)) (by rintro (z | z); exact z q; rw [e] at z; cases z)
theorem Aft.trans (x : Aft w B σ σ' L cl h h') (y : Aft w B σ' σ'' L cl h' h'') : Aft w B σ σ'' L cl h h'' where
  inv := y.inv
  keep := fun b o e c => y.keep b o (x.keep b o e c) (c.imp id fun ⟨c1, c2, c3⟩ => ⟨c1, c2, x.domN e c3⟩)
  alive := fun b o e => let ⟨o', e'⟩ := x.alive b o e; y.alive b o' e'
  dom := fun b q => (y.dom b q).elim (fun z => x.dom b z) fun z => .inr (by
    cases e : h.get? b with
    | none => rfl
    | some o => obtain ⟨o', e'⟩ := x.alive b o e; rw [e'] at z; cases z)
theorem Aft.weaken {cl' : List Addr} (x : Aft w B σ σ' L cl h h') (hc : ∀ b ∈ cl, b ∈ cl') : Aft w B σ σ' L cl' h h' :=
  ⟨x.inv, fun b o e c => x.keep b o e (c.imp id fun ⟨a, b', d⟩ => ⟨a, fun q => b' (hc _ q), d⟩), x.alive, x.dom⟩
/-- nothing of what stood is touched -/
theorem Aft.of_keeps (I : Inv w B σ h) (k : ∀ b o, h.get? b = some o → h'.get? b = some o) : Aft w B σ σ L cl h h' :=
  ⟨⟨fun b o e => k _ _ (I.base b o e), fun a o e => ⟨(I.own a o e).1, ORel.mono (fun b o _ e => k b o e) (fun ob e => k _ _ e) (I.own a o e).2⟩⟩, fun b o e _ => k b o e, fun b o e => ⟨o, k b o e⟩, fun _ x => .inl x⟩
theorem Aft.push (I : Inv w B σ h) (o : Obj) : Aft w B σ σ L cl h (h.push o) :=
  .of_keeps I (fun b o' e => Heap.get?_push_of_some o e)
theorem Aft.alloc (I : Inv w B σ h) (k : ∀ b o, h.get? b = some o → h'.get? b = some o) {a : Addr} {ao : AO} (ha : h.get? a = none) (hB : isD ao = true → B.objs.size ≤ a) (hr : ORel w B h' a ao) : Aft w B σ (sset σ a ao) L cl h h' := by
  have X := Aft.of_keeps (L := L) (cl := cl) I k
  refine ⟨⟨X.inv.base, fun b o e => ?_⟩, X.keep, X.alive, fun b q => ?_⟩
  · unfold sset at e
    split at e
    · rename_i hb; cases e; subst hb; exact ⟨⟨I.new ha, hB⟩, hr⟩
    · exact X.inv.own b o e
  · unfold sset at q
    split at q
    · rename_i hb; exact .inr (hb ▸ ha)
    · exact .inl q
/-- one object of the call's own is changed; the frame's own dict may be another object with the same names -/
theorem Aft.update (I : Inv w B σ h) {a : Addr} {o₀ ao : AO} {ob : Obj} (ha : σ a = some o₀) (hB : ∀ b o, B.get? b = some o → h'.get? b = some o) (hs : ∀ b o, b ≠ a → b ≠ L → h.get? b = some o → h'.get? b = some o)
    (hL : ∀ o, h.get? L = some o → ∃ o', h'.get? L = some o') (hLs : σ L = none) (hLi : ∀ o, h.get? L = some o → ¬ Imm o) (h1 : h'.get? a = some ob) (hr : ORel w B h' a ao) (hd : isD ao = true → isD o₀ = true) : Aft w B σ (sset σ a ao) L cl h h' := by
  have ki : ∀ b o, Imm o → h.get? b = some o → h'.get? b = some o := fun b o i e => hs b o (fun q => I.notImm ha (q ▸ e) i) (fun q => hLi o (q ▸ e) i) e
  refine ⟨⟨hB, fun b o e => ?_⟩, fun b o e c => ?_, fun b o e => ?_, fun b q => ?_⟩
  · unfold sset at e
    split at e
    · rename_i hb; cases e; subst hb; exact ⟨⟨(I.own _ _ ha).1.1, fun q => (I.own _ _ ha).1.2 (hd q)⟩, hr⟩
    · rename_i hb; exact ⟨(I.own b o e).1, ORel.mono ki (fun ob e' => hs b ob hb (fun q => by rw [q, hLs] at e; cases e) e') (I.own b o e).2⟩
  · rcases c with c | ⟨c0, _, c⟩
    · exact ki b o c e
    · exact hs b o (fun q => by rw [q, ha] at c; cases c) c0 e
  · by_cases q : b = a
    · exact ⟨ob, q ▸ h1⟩
    · by_cases q' : b = L
      · subst q'; exact hL o e
      · exact ⟨o, hs b o q q' e⟩
  · unfold sset at q
    split at q
    · rename_i hb; exact .inl (by rw [hb, ha]; exact nofun)
    · exact .inl q
theorem Aft.updS (I : Inv w B σ h) {a : Addr} {o₀ ao : AO} (ha : σ a = some o₀) (hLs : σ L = none) (hLi : ∀ o, h.get? L = some o → ¬ Imm o) (hs : Heap.SameBut a h h') (hr : ORel w B h' a ao) (hd : isD ao = true → isD o₀ = true) : Aft w B σ (sset σ a ao) L cl h h' := by
  obtain ⟨ob, h1, _⟩ := hr.ob
  refine Aft.update I ha (fun b o e => (hs.2 b (fun q => ?_)).trans (I.base b o e)) (fun b o q _ e => (hs.2 b q).trans e) (fun o e => ⟨o, (hs.2 L (fun q => by rw [q, ha] at hLs; cases hLs)).trans e⟩) hLs hLi h1 hr hd
  rw [q, I.newB ha] at e; cases e
theorem Inv.forget (I : Inv w B σ h) (l : sle σ' σ) : Inv w B σ' h := ⟨I.base, fun a o e => I.own a o (l a o e)⟩
theorem Aft.forget (x : Aft w B σ σ' L cl h h') (l : sle σ'' σ') : Aft w B σ σ'' L cl h h' :=
  ⟨x.inv.forget l, x.keep, x.alive, fun b q => x.dom b (by
    cases z : σ'' b with
    | none => exact absurd z q
    | some o => rw [l b o z]; exact nofun)⟩
end

/-- a frame's names -/
noncomputable def FR (B : Heap) (env : Env) (h : Heap) (lm : LM) : Prop :=
  ∃ m, h.Ns env.locals m ∧ ∀ x v, lm x = some v → (env.kindOf x = some .local ∧ ∃ u, m x = some u ∧ Rel B h v u) ∨
    ((env.kindOf x = some .cell ∨ env.kindOf x = some .free) ∧ ∃ c u, env.cells.lookup x = some c ∧ h.IsCell c (some u) ∧ Rel B h v u)
structure EnvOk (c : Cx) (env : Env) : Prop where
  fn : env.scope.kind = .function
  g : env.globals = mainGlobals
  b : env.builtins = builtinsNs
  k : ∀ x kd, c.kind x = some kd → kd ≠ .free → env.kindOf x = some kd
  cel : ∀ x, c.kind x = some .cell → ∃ a, env.cells.lookup x = some a
  apart : ∀ y z a, env.cells.lookup y = some a → env.cells.lookup z = some a → y = z
  mem : ∀ p ∈ env.cells, env.cells.lookup p.1 = some p.2
  dbg : env.kindOf (Str.ofString "__debug__") = none
  cdc : env.kindOf (Str.ofString "__classdict__") = none
structure FrameOk (B : Heap) (σ : Sg) (env : Env) (h : Heap) : Prop where
  l : σ env.locals = none
  lb : B.objs.size ≤ env.locals
  cb : ∀ x a, env.cells.lookup x = some a → B.get? a = none
  cell : ∀ x c, env.cells.lookup x = some c → σ c = none ∧ c ≠ env.locals ∧ ∃ v, h.IsCell c v
structure St (w : World) (B : Heap) (c : Cx) (env : Env) (lm : LM) (σ : Sg) (h : Heap) : Prop where
  eo : EnvOk c env
  inv : Inv w B σ h
  fr : FR B env h lm
  ok : FrameOk B σ env h

section
variable {w : World} {B h h' h'' : Heap} {σ σ' σ'' : Sg} {L : Addr} {cl : List Addr} {c : Cx} {env : Env} {lm : LM}
theorem FR.lt (F : FR B env h lm) : env.locals < h.objs.size := let ⟨_, n, _⟩ := F; n.lt
theorem FR.obj (F : FR B env h lm) : ∃ o es ep, h.get? env.locals = some o ∧ o.data = .dict es ep := let ⟨_, ⟨o, es, ep, e, d, _⟩, _⟩ := F; ⟨o, es, ep, e, d⟩
theorem FR.notImm (F : FR B env h lm) : ∀ o, h.get? env.locals = some o → ¬ Imm o := fun o e i => by
  obtain ⟨o', es, ep, e', d⟩ := F.obj
  rw [e] at e'; cases e'
  rcases i with ⟨_, _, q, _⟩ | ⟨_, q, _⟩ <;> rw [d] at q <;> cases q
/-- a step that leaves the frame's own dict and cells as they were -/
theorem St.step (S : St w B c env lm σ h) (x : Aft w B σ σ' env.locals [] h h') (hL : ∀ m, h.Ns env.locals m → h'.Ns env.locals m) : St w B c env lm σ' h' := by
  refine ⟨S.eo, x.inv, ?_, ?_⟩
  · obtain ⟨m, hn, hr⟩ := S.fr
    refine ⟨m, hL m hn, fun y v e => (hr y v e).imp (fun ⟨a, u, b, r⟩ => ⟨a, u, b, r.mono x.imm⟩) fun ⟨a, cc, u, b, ⟨o, q, d⟩, r⟩ => ⟨a, cc, u, b, ⟨o, ?_, d⟩, r.mono x.imm⟩⟩
    exact x.keep _ _ q (.inr ⟨(S.ok.cell y cc b).2.1, nofun, (S.ok.cell y cc b).1⟩)
  · obtain ⟨o, _, _, e, _⟩ := S.fr.obj
    exact ⟨x.domN e S.ok.l, S.ok.lb, S.ok.cb, fun y cc e => let ⟨c1, c2, v, o, c4, c5⟩ := S.ok.cell y cc e; ⟨x.domN c4 c1, c2, v, o, x.keep _ _ c4 (.inr ⟨c2, nofun, c1⟩), c5⟩⟩
theorem St.stepX (S : St w B c env lm σ h) (x : Aft w B σ σ' env.locals [] h h') (hL : ∀ o, h.get? env.locals = some o → h'.get? env.locals = some o) : St w B c env lm σ' h' :=
  S.step x fun m hn => hn.at' hL
end
end
section
open PySem PySem.W PyProof.Rows PySem.Calls
structure Room (A : Around) (d : Nat) : Prop where
  handled : A.handled = none
  depth : A.depth + 4 * d + 4 ≤ 1000
  units : A.units + 20 * d + 200 ≤ 9900

theorem intMulOk_of {a b : Int} (h : a.natAbs < 2 ^ 64) : IntMulOk a b := by
  unfold IntMulOk
  have : Builtin.Int.intBits a ≤ 64 := by
    unfold Builtin.Int.intBits
    split
    · omega
    · rename_i q
      have q' : a.natAbs ≠ 0 := by intro z; apply q; simp [Int.natAbs_eq_zero.mp z]
      have := (Nat.log2_lt q').mpr h
      omega
  simp [shortFactorBits, Nat.not_lt.mpr this]

theorem beqd {α : Type} [DecidableEq α] [BEq α] [LawfulBEq α] (a b : α) : (a == b) = decide (a = b) := by rw [Bool.eq_iff_iff]; simp
theorem strsOf_are {B h : Heap} {xs : List PV} : ∀ {vs : List Value} {l : List Str}, RelL B h xs vs → strsOf xs = some l → StrsAre vs l := by
  induction xs with
  | nil => intro vs l r e; cases r; cases e; exact .nil
  | cons p ps ih =>
    intro vs l r e
    cases r with
    | cons a r =>
    cases p <;> first | cases e | skip
    cases a
    simp only [strsOf, Option.map_eq_some_iff] at e
    obtain ⟨l, e, rfl⟩ := e
    exact .cons _ _ (ih r e)
noncomputable def pyOf : Str ⊕ Int → PyData
  | .inl s => .str s
  | .inr i => .int i
theorem strs_read {h : Heap} : ∀ {vs : List Value} {l : List Str}, StrsAre vs l → ReadsAll h vs (l.map .str) []
  | _, _, .nil => .nil
  | _, _, .cons y t r => .cons (as := []) (bs := []) (.str y t) (strs_read r)
theorem flatOf_read {B h h' : Heap} {xs : List PV} : ∀ {vs : List Value} {l : List (Str ⊕ Int)}, RelL B h xs vs → flatOf xs = some l → ReadsAll h' vs (l.map pyOf) [] := by
  induction xs with
  | nil => intro vs l r e; cases r; cases e; exact .nil
  | cons p ps ih =>
    intro vs l r e
    cases r with
    | cons a r =>
    cases p <;> first | cases e | skip
    all_goals
      cases a
      simp only [flatOf, Option.map_eq_some_iff] at e
      obtain ⟨l, e, rfl⟩ := e
    · exact .cons (as := []) (bs := []) (.int _ _) (ih r e)
    · exact .cons (as := []) (bs := []) (.str _ _) (ih r e)
theorem intsOf_are {prog : Program} {w : World} {B h : Heap} {xs : List PV} : ∀ {vs : List Value} {l : List Int}, RelL B h xs vs → intsOf xs = some l → ItemsAre (intKind prog w) l vs := by
  induction xs with
  | nil => intro vs l r e; cases r; cases e; exact .nil
  | cons p ps ih =>
    intro vs l r e
    cases r with
    | cons a r =>
    cases p <;> first | cases e | skip
    cases a
    simp only [intsOf, Option.map_eq_some_iff] at e
    obtain ⟨l, e, rfl⟩ := e
    exact .cons (intKind_is _ _ _ _) (ih r e)
theorem eqv_flat : ∀ l m : List (Str ⊕ Int), PyData.eqvAll (l.map pyOf) (m.map pyOf) = decide (l = m)
  | [], [] => by simp [PyData.eqvAll]
  | [], _ :: _ => by simp [PyData.eqvAll]
  | _ :: _, [] => by simp [PyData.eqvAll]
  | a :: l, b :: m => by
    have ih := eqv_flat l m
    have e : (pyOf a).eqv (pyOf b) = decide (a = b) := by
      cases a <;> cases b <;> simp [pyOf, PyData.eqv, beqd]
    simp only [List.map_cons, PyData.eqvAll, e, ih]
    by_cases h1 : a = b <;> by_cases h2 : l = m <;> simp [h1, h2]
theorem lay_flat : ∀ l : List (Str ⊕ Int), l.all flatOk = true → PyData.canLayAll0 (l.map pyOf) = true ∧ PyData.depthAll (l.map pyOf) = 0
  | [], _ => ⟨rfl, rfl⟩
  | a :: l, h => by
    simp only [List.all_cons, Bool.and_eq_true] at h
    obtain ⟨h1, h2⟩ := lay_flat l h.2
    have h3 := h.1
    cases a <;> simp_all [pyOf, PyData.canLayAll0, PyData.canLay0, PyData.depthAll, PyData.depth, flatOk]
theorem shaped_flatT (l : List (Str ⊕ Int)) (h : l.all flatOk = true) : SeqAt.shaped (.tuple (l.map pyOf)) = true := by
  obtain ⟨h1, h2⟩ := lay_flat l h
  simp [SeqAt.shaped, PyData.canLay0, PyData.depth, h1, h2]
theorem strs_flat (l : List Str) : l.map PyData.str = (l.map Sum.inl).map pyOf := by
  rw [List.map_map]; rfl
theorem shaped_strs (l : List Str) (h : l.all PyData.strOk = true) : SeqAt.shaped (.list (l.map .str)) = true := by
  obtain ⟨h1, h2⟩ := lay_flat (l.map Sum.inl) (by rw [List.all_map]; exact h)
  rw [← strs_flat] at h1 h2
  simp [SeqAt.shaped, PyData.canLay0, PyData.depth, h1, h2]
theorem any_mem (l : List Str) (x : Str) : (l.any fun y => y == x) = decide (x ∈ l) := by
  rw [Bool.eq_iff_iff]; simp

section
variable {w : World} {B hh : Heap} {A : Around} {E : Value → Shared → Prop} {s : Shared}

theorem sbin {op : Operator} {a b : PV} {av bv : Value} {k : PV → Prop} {Q : Value → Shared → Prop} (h : WBin op a b k) (ra : Rel B hh a av) (rb : Rel B hh b bv)
    (hk : ∀ pv v tk, k pv → Rel B hh pv v → Q v { s with toks := tk }) : wpAny (model pw w) A (binaryOp op av bv) Q E s := by
  cases h with
  | add h => cases ra; cases rb; exact add_int (hk _ _ _ h (.int _ _))
  | sub h => cases ra; cases rb; exact sub_int (hk _ _ _ h (.int _ _))
  | mul h1 h2 h => cases ra; cases rb; exact mul_int (hk _ _ _ h (.int _ _)) (intMulOk_of h1)
  | div h1 h2 h => cases ra; cases rb; exact floordiv_int (by omega) (hk _ _ _ h (.int _ _)) (.inl (PyProof.noPylong_small (by omega)))
  | mod h1 h => cases ra; cases rb; exact mod_int' h1 (hk _ _ _ h (.int _ _))
  | str h1 h => cases ra; cases rb; exact add_str (fun t' tk => hk _ _ _ h (.str _ _)) (by rw [sizeLine_eq]; omega)
theorem sinp {op : Operator} {a b : PV} {av bv : Value} {k : PV → Prop} {Q : Value → Shared → Prop} (h : WBin op a b k) (ra : Rel B hh a av) (rb : Rel B hh b bv)
    (hk : ∀ pv v tk, k pv → Rel B hh pv v → Q v { s with toks := tk }) : wpAny (model pw w) A (inplaceOp op av bv) Q E s := by
  cases h with
  | add h => cases ra; cases rb; exact iadd_int (hk _ _ _ h (.int _ _))
  | sub h => cases ra; cases rb; exact isub_int (hk _ _ _ h (.int _ _))
  | mul h1 h2 h => cases ra; cases rb; exact imul_int (hk _ _ _ h (.int _ _)) (intMulOk_of h1)
  | div h1 h2 h => cases ra; cases rb; exact ifloordiv_int (by omega) (hk _ _ _ h (.int _ _)) (.inl (PyProof.noPylong_small (by omega)))
  | mod h1 h => cases ra; cases rb; exact imod_int h1 (hk _ _ _ h (.int _ _))
  | str h1 h => cases ra; cases rb; exact iadd_str (fun t' tk => hk _ _ _ h (.str _ _)) (by rw [sizeLine_eq]; omega)

theorem eqv_nil (l : List Str) : (PyData.list (l.map .str)).eqv (.list []) = decide (l = []) := by
  cases l <;> simp [PyData.eqv, PyData.eqvAll]
theorem scmp {op : CmpOp} {a b : PV} {av bv : Value} {σ : Sg} {d : Nat} {k : Bool → Prop} {Q : Value → Shared → Prop} (h : WCmp op a b σ k) (R : Room A d) (I : Inv w B σ s.heap) (ra : Rel B s.heap a av) (rb : Rel B s.heap b bv)
    (hk : ∀ v, k v → Q (.bool v) s) : wpAny (model pw w) A (compareOp op av bv) Q E s := by
  have hu : A.units + 64 < cLine := by have := R.units; show _ < 9900; omega
  have hu' : A.units + 65 < cLine := by have := R.units; show _ < 9900; omega
  cases h with
  | eq h => cases ra; cases rb; exact eq_int (by rw [beqd]; exact hk _ h)
  | ne h => cases ra; cases rb; exact PyProof.Rows.ne_int (by rw [bne, beqd]; exact hk _ h)
  | lt h => cases ra; cases rb; exact PyProof.Rows.lt_int (hk _ h)
  | le h => cases ra; cases rb; exact PyProof.Rows.le_int (hk _ h)
  | gt h => cases ra; cases rb; exact PyProof.Rows.gt_int (hk _ h)
  | ge h => cases ra; cases rb; exact PyProof.Rows.ge_int (hk _ h)
  | eqS h => cases ra; cases rb; exact eq_str (by rw [beqd]; exact hk _ h)
  | neS h => cases ra; cases rb; exact ne_str (by rw [bne, beqd]; exact hk _ h)
  | neB h => cases ra; cases rb; exact ne_bool (hk _ h)
  | inS h => cases ra; cases rb; exact P.in_str (hk _ h)
  | ninS h => cases ra; cases rb; exact P.notIn_str (hk _ h)
  | inT l e h =>
    cases ra; cases rb with
    | tup ht r => exact in_tuple_strs ht (strsOf_are r e) (by rw [any_mem]; exact hk _ h)
  | inL ys l e1 e h =>
    cases ra; cases rb
    obtain ⟨_, vs, hp, r⟩ := I.own _ _ e1
    exact in_list_strs (vs := vs.toList) (by simpa using hp.isList) (strsOf_are r e) (by rw [any_mem]; exact hk _ h)
  | ninL ys l e1 e h =>
    cases ra; cases rb
    obtain ⟨_, vs, hp, r⟩ := I.own _ _ e1
    exact notin_list_strs (vs := vs.toList) (by simpa using hp.isList) (strsOf_are r e) (by rw [any_mem]; exact hk _ h)
  | eqL xs l e1 e2 e hq h =>
    cases ra; cases rb
    obtain ⟨_, vs, hp, r⟩ := I.own _ _ e1
    obtain ⟨_, us, hp', r'⟩ := I.own _ _ e2
    obtain ⟨o, ho, hc, n, hd⟩ := hp.isList
    obtain ⟨o', ho', hc', n', hd'⟩ := hp'.isList
    have hus := r'.nil_eq
    exact eq_dataH (reads_list_at ho hc hd (strs_read (strsOf_are r e))) (reads_list_at ho' hc' hd' (by rw [hus]; exact .nil)) (shaped_strs l hq) (by rfl) hu (by rw [eqv_nil]; exact hk _ h)
  | neL xs l e1 e2 e hq h =>
    cases ra; cases rb
    obtain ⟨_, vs, hp, r⟩ := I.own _ _ e1
    obtain ⟨_, us, hp', r'⟩ := I.own _ _ e2
    obtain ⟨o, ho, hc, n, hd⟩ := hp.isList
    obtain ⟨o', ho', hc', n', hd'⟩ := hp'.isList
    have hus := r'.nil_eq
    exact ne_dataH (reads_list_at ho hc hd (strs_read (strsOf_are r e))) (reads_list_at ho' hc' hd' (by rw [hus]; exact .nil)) (shaped_strs l hq) (by rfl) hu (by rw [eqv_nil]; exact hk _ h)
  | neT l m e1 e2 q1 q2 h =>
    cases ra with
    | tup ht r =>
    cases rb with
    | tup ht' r' =>
    obtain ⟨o, ho, hc, n, hd⟩ := ht
    obtain ⟨o', ho', hc', n', hd'⟩ := ht'
    refine ne_dataH (reads_tuple_at ho hc hd (flatOf_read r e1)) (reads_tuple_at ho' hc' hd' (flatOf_read r' e2)) (shaped_flatT l q1) (shaped_flatT m q2) hu ?_
    have : (PyData.tuple (l.map pyOf)).eqv (.tuple (m.map pyOf)) = decide (l = m) := by
      rw [← eqv_flat]; simp [PyData.eqv]
    rw [this]; exact hk _ h
end
end
section
open PySem PySem.W PyProof.Rows PySem.Calls
/-- what is to be shown behind a step that hands on a value -/
noncomputable abbrev Kont (w : World) (B : Heap) (c : Cx) (env : Env) (lm : LM) (σ : Sg) (s : Shared) (k : PV → Sg → Prop) (Q : Value → Shared → Prop) : Prop :=
  ∀ pv v σ' h' tk, k pv σ' → Rel B h' pv v → St w B c env lm σ' h' → Aft w B σ σ' env.locals [] s.heap h' → (∀ o, s.heap.get? env.locals = some o → h'.get? env.locals = some o) → Q v { s with heap := h', toks := tk }

section
variable {w : World} {B : Heap} {c : Cx} {env : Env} {lm : LM} {σ : Sg} {A : Around} {E : Value → Shared → Prop} {s : Shared} {k : PV → Sg → Prop} {Q : Value → Shared → Prop}

theorem Kont.same (K : Kont w B c env lm σ s k Q) (S : St w B c env lm σ s.heap) {pv : PV} {v : Value} {tk : Nat} (h : k pv σ) (r : Rel B s.heap pv v) : Q v { s with toks := tk } := K pv v σ s.heap tk h r S (Aft.refl S.inv) fun _ e => e
theorem Kont.keeps (K : Kont w B c env lm σ s k Q) (S : St w B c env lm σ s.heap) {pv : PV} {v : Value} {h' : Heap} {tk : Nat} (hk : ∀ b o, s.heap.get? b = some o → h'.get? b = some o) (h : k pv σ) (r : Rel B h' pv v) : Q v { s with heap := h', toks := tk } :=
  K pv v σ h' tk h r (S.stepX (Aft.of_keeps S.inv hk) fun o e => hk _ o e) (Aft.of_keeps S.inv hk) fun o e => hk _ o e
theorem St.leB (S : St w B c env lm σ s.heap) : B.objs.size ≤ s.heap.objs.size := Nat.le_trans S.ok.lb (Nat.le_of_lt S.fr.lt)
theorem Kont.alloc (K : Kont w B c env lm σ s k Q) (S : St w B c env lm σ s.heap) {a : Addr} {ao : AO} {h' : Heap} {tk : Nat} (hk : ∀ b o, s.heap.get? b = some o → h'.get? b = some o) (ha : s.heap.objs.size ≤ a)
    (hr : ORel w B h' a ao) (h : ∀ a, σ a = none → k (.ref a) (sset σ a ao)) : Q (.ref a) { s with heap := h', toks := tk } :=
  K (.ref a) (.ref a) (sset σ a ao) h' tk (h a (S.inv.none_at (get_above ha))) (.ref a) (S.stepX (Aft.alloc S.inv hk (get_above ha) (fun _ => Nat.le_trans S.leB ha) hr) fun o e => hk _ o e) (Aft.alloc S.inv hk (get_above ha) (fun _ => Nat.le_trans S.leB ha) hr) fun o e => hk _ o e
theorem Kont.upd (K : Kont w B c env lm σ s k Q) (S : St w B c env lm σ s.heap) {a : Addr} {o₀ ao : AO} {pv : PV} {v : Value} {h' : Heap} {tk : Nat} (ha : σ a = some o₀) (hs : Heap.SameBut a s.heap h') (hr : ORel w B h' a ao)
    (h : k pv (sset σ a ao)) (r : Rel B h' pv v) (hd : isD ao = true → isD o₀ = true := by exact fun q => q) : Q v { s with heap := h', toks := tk } := by
  have X := Aft.updS (L := env.locals) (cl := []) S.inv ha S.ok.l S.fr.notImm hs hr hd
  have hL : ∀ o, s.heap.get? env.locals = some o → h'.get? env.locals = some o := fun o e => (hs.2 _ fun q => by have := S.ok.l; rw [q, ha] at this; cases this).trans e
  exact K pv v _ h' tk h r (S.stepX X hL) X hL

theorem seqIdx {i : Int} {n : Nat} (h0 : 0 ≤ i) (h1 : i.toNat < n) : seqIndex? i n = some i.toNat := by
  have a : ¬ i < 0 := by omega
  have b : i < (n : Int) := by omega
  simp [seqIndex?, a, b, h0]
theorem lt_of_get {α : Type} {xs : Array α} {i : Nat} {v : α} (h : xs[i]? = some v) : i < xs.size := by
  by_cases q : i < xs.size
  · exact q
  · rw [Array.getElem?_eq_none (Nat.not_lt.mp q)] at h; cases h
theorem swrap {t : Sem Value} (h : wpAny (model pw w) A t Q E s) : wpAny (model pw w) A t Q E s := h

theorem get_push1 {h : Heap} {o : Obj} : ∀ b ob, h.get? b = some ob → (h.push o).get? b = some ob := fun b ob e => Heap.get?_push_of_some o e

theorem slist_new {xs : List PV} {vs : List Value} {h : Heap} {o : Obj} (r : RelL B h xs vs) (ho : o = { cls := .type "list", data := .seq vs.toArray }) : ORel w B (h.push o) h.objs.size (.list xs) := by
  subst ho
  exact ⟨vs.toArray, ⟨0, Heap.get?_push_size _ rfl⟩, by simpa using r.mono fun b o _ e => Heap.get?_push_of_some _ e⟩

theorem sfun {id : String} {vs : List PV} {us : List Value} {d : Nat} (h : WFun id vs σ k) (R : Room A d) (S : St w B c env lm σ s.heap) (r : RelL B s.heap vs us) (K : Kont w B c env lm σ s k Q) :
    wpAny (model pw w) A (call (.builtin id) us) Q E s := by
  cases h with
  | lenS h1 h2 => cases r with | cons a r => cases r; cases a; exact len_str (by omega) (K.same S h2 (.int _ _))
  | lenL xs h1 h2 h3 =>
    cases r with | cons a r =>
    cases r; cases a
    obtain ⟨_, vs, hl, r⟩ := S.inv.own _ _ h1
    have e : xs.length = vs.size := by have := r.length; simpa using this
    refine call_len_list hl.isList (by omega) ?_
    rw [← e]
    exact K.same S h3 (.int _ _)
  | ord h2 => cases r with | cons a r => cases r; cases a; exact P.ord_of_char (K.same S h2 (.int _ _))
  | chr h1 h2 h3 => cases r with | cons a r => cases r; cases a; exact chr_of_range h1 h2 (K.same S h3 (.str _ _))
  | abs h => cases r with | cons a r => cases r; cases a; exact call_abs_int fun u tk => K.same S h (.int _ _)
  | max h =>
    cases r with | cons a r =>
    cases r with | cons b r =>
    cases r; cases a; cases b
    refine max_two_ints R.handled fun h' tk hk => ?_
    split
    · rename_i q; rw [if_pos q] at h; exact K.keeps S hk h (.int _ _)
    · rename_i q; rw [if_neg q] at h; exact K.keeps S hk h (.int _ _)

theorem styp {id : String} {vs : List PV} {us : List Value} (h : WTyp id vs σ k) (S : St w B c env lm σ s.heap) (r : RelL B s.heap vs us) (K : Kont w B c env lm σ s k Q) :
    wpAny (model pw w) A (call (.type id) us) Q E s := by
  cases h with
  | int h => cases r with | cons a r => cases r; cases a; exact call_int_int (K.same (tk := s.toks) S h (.int _ _))
  | range h1 h2 =>
    cases r with | cons a r =>
    cases r; cases a
    exact call_range_1 (K.keeps S get_push1 h2 (.rng (Heap.get?_push_size _ rfl) h1))

theorem sitem {o i : PV} {ov iv : Value} {value slice : Expr} {k : PV → Prop} (h : WItem o i σ k) (S : St w B c env lm σ s.heap) (ro : Rel B s.heap o ov) (ri : Rel B s.heap i iv)
    (K : Kont w B c env lm σ s (fun v σ' => k v ∧ σ' = σ) Q) : wpAny (model pw w) A (getItem ov iv) Q E s ∧ ∃ T id, s.TypeIs ov T ∧ typeLookup (.type T) "__getitem__" = pure (some (.builtin id)) := by
  cases h with
  | str cc h0 h1 h2 h3 =>
    cases ro; cases ri
    refine ⟨getItem_str (by simp only [Bool.or_eq_false_iff, decide_eq_false_iff_not]; omega) (c := cc) ?_ (K.same S ⟨h3, rfl⟩ (.str _ _)), _, _, typeIs_str _ _ _, slot_str_getitem.lookup⟩
    show ((seqIndex? _ (Array.size _)).bind _) = _
    rw [seqIdx h0 (lt_of_get h2)]
    exact h2
  | list xs v h2 h0 h1 h3 h4 =>
    cases ro; cases ri
    obtain ⟨_, vs, hl, r⟩ := S.inv.own _ _ h2
    obtain ⟨u, hu, ru⟩ := r.get _ h3
    exact ⟨wpAny_getItem_list hl.isList h0 (by omega) (by rw [← Array.getElem?_toList]; exact hu) (K.same (tk := s.toks) S ⟨h4, rfl⟩ ru), _, _, hl.isList.typeIs, slot_list_getitem.lookup⟩
  | tup v h0 h1 h2 h3 =>
    cases ri
    cases ro with
    | tup ht r =>
    obtain ⟨u, hu, ru⟩ := r.get _ h2
    rw [Array.getElem?_toList] at hu
    exact ⟨getItem_tuple ht (by omega) (by omega) (seqIdx h0 (lt_of_get hu)) hu (K.same (tk := s.toks) S ⟨h3, rfl⟩ ru), _, _, ht.typeIs, slot_tuple_getitem.lookup⟩
end
end
section
open PySem PySem.W PyProof.Rows PySem.Calls
/-- the world that the law is called in -/
structure Wf (w : World) (B : Heap) : Prop where
  X : (KK w.params).In B
  g : ∃ mg, B.Ns mainGlobals mg
  b : ∃ mb, B.Ns builtinsNs mb ∧ ∀ x : Str, x ≠ "__name__" → mb x = bootBuiltins x
  lim : B.NoLimit
  low : sysModules < B.objs.size

theorem lookup_mem {α β : Type} [BEq α] [LawfulBEq α] {x : α} {v : β} : ∀ {l : List (α × β)}, l.lookup x = some v → (x, v) ∈ l
  | [], e => by simp at e
  | (y, u) :: r, e => by
    rw [List.lookup_cons] at e
    split at e
    · rename_i q; rw [beq_iff_eq.mp q]; cases e; exact .head _
    · exact .tail _ (lookup_mem e)

noncomputable def vEq (v : Value) (p : PV) : Bool := match p with
  | .ref b => v == .ref b
  | .int j => (match v with | .int i _ => i == j | _ => false)
  | .con u => v == u
  | _ => false
theorem rel_vEq {B h : Heap} {v : Value} {p : PV} (e : vEq v p = true) : Rel B h p v := by
  cases p with
  | ref b => rw [beq_iff_eq.mp (show (v == .ref b) = true from e)]; exact .ref _
  | int j =>
    cases v with
    | int i t => rw [beq_iff_eq.mp (show (i == j) = true from e)]; exact .int _ _
    | _ => cases e
  | con u => rw [beq_iff_eq.mp (show (v == u) = true from e)]; exact .con _
  | _ => cases e
theorem globs_ok (P : Params) : (globTab.all fun x => match nsIn (KK P) mainGlobals x.1 with
    | some (some v) => vEq v x.2
    | _ => false) = true := by kernel_rfl
theorem builts_ok (P : Params) : (builtTab.all fun x => (match nsIn (KK P) mainGlobals x.1, bootBuiltins x.1 with
    | some none, some v => vEq v x.2
    | _, _ => false) && x.1 != Str.ofString "__name__") = true := by kernel_rfl
theorem meths_ok (P : Params) : (methTab.all fun x => plainGet (KK P) x.1.1 x.1.2 && (findIn (KK P) (.ref x.1.1) x.1.2 == some (some (.ref x.2))) && isFn (KK P) (.ref x.2)) = true := by kernel_rfl
theorem flds_ok (P : Params) : (fieldTab.all fun x => plainGet (KK P) x.1 x.2 && hasDictIn (KK P) x.1 && (findIn (KK P) (.ref x.1) x.2 == some none) && plainOver (KK P) x.1 && (takerIn (KK P) x.1 x.2 == some none) &&
    (findIn (KK P) (.ref x.1) "__setattr__" == some (some (.builtin "object.__setattr__")))) = true := by kernel_rfl

section
variable {w : World} {B : Heap} {c : Cx} {env : Env} {lm : LM} {σ : Sg} {A : Around} {E : Value → Shared → Prop} {s : Shared} {k : PV → Sg → Prop} {Q : Value → Shared → Prop}

theorem St.F (S : St w B c env lm σ s.heap) : ∃ m, Fr B env.locals s.heap m := let ⟨m, n, _⟩ := S.fr; ⟨m, n, S.inv.base, S.ok.lb⟩

theorem flds_get {B h : Heap} {n : Str} : ∀ {fs : List (Str × PV)} {es : List DictEntry}, FldsAre B h fs es → (∀ e ∈ es, e.refKey = false) ∧ ∃ v, (es.find? (·.key.isStr n)).map (·.val) = v ∧ OptRel B h (lookF n fs) v
  | _, _, .nil => ⟨fun _ h => (nomatch h), none, rfl, trivial⟩
  | _, _, .cons (n := m) (p := p) (hs := hs) (t := t) (v := v) (es := es) r q => by
    obtain ⟨h1, u, h2, h3⟩ := flds_get (n := n) q
    refine ⟨fun e he => ?_, ?_⟩
    · rcases List.mem_cons.mp he with rfl | he
      · rfl
      · exact h1 e he
    · simp only [List.find?_cons, lookF]
      by_cases e : m = n
      · subst e
        refine ⟨some v, ?_, ?_⟩
        · have : (Value.str m t).isStr m = true := by simp [Value.isStr]
          simp [this]
        · simp only [if_true]; exact r
      · have : (Value.str m t).isStr n = false := by simp [Value.isStr, e]
        rw [if_neg e]
        exact ⟨u, by simp only [this]; exact h2, h3⟩
theorem flds_getL {B h : Heap} {n : Str} {fs : List (Str × PV)} {es : List DictEntry} (x : FldsAre B h fs es) : ∃ v, getL n es = some v ∧ OptRel B h (lookF n fs) v := by
  obtain ⟨h1, v, h2, h3⟩ := flds_get (n := n) x
  refine ⟨v, ?_, h3⟩
  unfold getL
  cases e : es.find? (·.key.isStr n) with
  | some u => rw [e] at h2; subst h2; rfl
  | none =>
    rw [e] at h2; subst h2
    have : es.any (·.refKey) = false := by
      rw [List.any_eq_false]; intro y hy; simp [h1 y hy]
    simp [this]
theorem flds_put {B h : Heap} {n : Str} {p : PV} {hs : Int} {t : Tok} {v : Value} (r : Rel B h p v) : ∀ {fs : List (Str × PV)} {es : List DictEntry}, FldsAre B h fs es → FldsAre B h (putF n p fs) (putL n hs (.str n t) v es)
  | _, _, .nil => .cons r .nil
  | _, _, .cons (n := m) (t := u) a q => by
    simp only [putF, putL]
    by_cases e : m = n
    · subst e
      have : (Value.str m u).isStr m = true := by simp [Value.isStr]
      rw [if_pos rfl]; simp only [this, if_true]
      exact .cons r q
    · have : (Value.str m u).isStr n = false := by simp [Value.isStr, e]
      rw [if_neg e]; simp only [this, Bool.false_eq_true, if_false]
      exact .cons a (flds_put r q)
theorem flds_len {B h : Heap} : ∀ {fs : List (Str × PV)} {es : List DictEntry}, FldsAre B h fs es → es.length = fs.length
  | _, _, .nil => rfl
  | _, _, .cons _ q => by simp [flds_len q]
theorem putL_len (n : Str) (hs : Int) (key v : Value) : ∀ es : List DictEntry, (putL n hs key v es).length ≤ es.length + 1
  | [] => by simp [putL]
  | e :: r => by
    have := putL_len n hs key v r
    simp only [putL]; split <;> simp <;> omega

theorem inst_at {C dx x : Addr} {es : List DictEntry} {n : Nat} {h : Heap} (h1 : h.get? x = some { cls := .ref C, dict := some dx, data := .plain, slots := #[] }) (h2 : h.get? dx = some (dictOf es n)) :
    PySem.W.InstAt h x { cls := .ref C, dict := some dx, data := .plain, slots := #[] } C (some (dictOf es n)) := ⟨h1, rfl, rfl, h2⟩

/-- the method that WGet has found -/
noncomputable def metOf (o : Value) : Addr ⊕ String → Value × List Value
  | .inl f => (.ref f, [o])
  | .inr id => (.builtin id, [o])
theorem sget {o : PV} {ov : Value} {m : Str} {kk : Addr ⊕ String → Prop} {pl : Sem Bool} {Q : Value × List Value → Shared → Prop} (Z : Wf w B) (h : WGet o m σ kk) (S : St w B c env lm σ s.heap) (ro : Rel B s.heap o ov)
    (K : ∀ f, kk f → Q (metOf ov f) s) : wpAny (model pw w) A (getMethod ov m pl) Q E s := by
  cases h with
  | inst C dx fs f h1 h2 h3 h4 h5 =>
    cases ro
    have q := List.all_eq_true.mp (meths_ok w.params) _ (lookup_mem h4)
    simp only [Bool.and_eq_true, beq_iff_eq] at q
    obtain ⟨⟨q1, q2⟩, q3⟩ := q
    obtain ⟨_, e1⟩ := S.inv.own _ _ h1
    obtain ⟨_, es, n, e2, fa⟩ := S.inv.own _ _ h2
    obtain ⟨v, e3, e4⟩ := flds_getL (n := m) fa
    rw [h3] at e4
    cases v with
    | some u => exact e4.elim
    | none =>
      obtain ⟨mm, F⟩ := S.F
      exact method_inst F Z.X (inst_at e1 e2) q1 q2 q3 e3 (K _ h5)
  | append xs h1 h2 =>
    cases ro
    obtain ⟨_, vs, ⟨n, hl⟩, r⟩ := S.inv.own _ _ h1
    exact getMethod_list_append hl rfl rfl (K _ h2)
  | @get a _ _ x h1 h2 h3 =>
    cases ro
    obtain ⟨_, hx⟩ := S.inv.own _ _ h1
    have hd : ∃ ob, s.heap.get? a = some ob ∧ ob.cls = .type "dict" ∧ ob.dict = none := by
      cases x with
      | edict => exact ⟨_, hx, rfl, rfl⟩
      | sdict m f => obtain ⟨g, ⟨ob, es, ep, e, he, _⟩, _⟩ := hx; exact ⟨ob, e, he.1, he.2.1⟩
      | tdict m f => obtain ⟨g, ⟨ob, es, ep, e, he, _⟩, _⟩ := hx; exact ⟨ob, e, he.1, he.2.1⟩
      | _ => cases h2
    obtain ⟨ob, e1, e2, e3⟩ := hd
    exact getMethod_builtin ⟨ob, e1, e2⟩ PySem.F.plainAttrs_dict PySem.F.slot_dict_get PySem.F.type_dict_get (fun b e => by cases e; exact ⟨ob, e1, e3⟩) (K _ h3)
  | starts h => cases ro; exact GM.startswith (K _ h)
  | find h => cases ro; exact GM.find (K _ h)
  | upper h => cases ro; exact GM.upper (K _ h)
  | join h => cases ro; exact GM.join (K _ h)
end
end
section
open PySem PySem.W PyProof.Rows PySem.Calls
section
variable {w : World} {B : Heap} {c : Cx} {env : Env} {lm : LM} {σ : Sg} {A : Around} {E : Value → Shared → Prop} {s : Shared} {k : PV → Sg → Prop} {Q : Value → Shared → Prop}

theorem own_ne_mods (Z : Wf w B) (I : Inv w B σ s.heap) {a : Addr} {o : AO} (e : σ a = some o) (hd : isD o = true := by exact rfl) : (a == sysModules) = false := by
  have h1 := (I.own a o e).1.2 hd
  have h2 := Z.low
  exact beq_eq_false_iff_ne.mpr fun e => absurd h1 (Nat.not_le.mpr (e ▸ h2))
theorem mapOf_empty {h : Heap} {a : Addr} (e : h.get? a = some (dictOf [] 0)) : h.MapOf (strKind pw w) a fun _ => none :=
  ⟨_, #[], 0, e, ⟨rfl, rfl, rfl⟩, rfl, fun _ he => by simp at he, fun _ => rfl⟩
theorem dictOfH_empty {h : Heap} {a : Addr} (e : h.get? a = some (dictOf [] 0)) : h.DictOfH (tupleKind (intKind pw w)) a [] :=
  ⟨_, #[], 0, e, ⟨rfl, rfl, rfl⟩, rfl, rfl, fun _ he => (nomatch he), .nil⟩
theorem optRel_getD {B h : Heap} {p : Option PV} {v : Option Value} {q : PV} {u : Value} (r : OptRel B h p v) (rq : Rel B h q u) : Rel B h (p.getD q) (v.getD u) := by
  cases p <;> cases v <;> first | exact r | exact rq | exact r.elim
theorem key_of {h : Heap} {xs : List PV} {l : List Int} {a : Addr} (r : Rel B h (.tup xs) (.ref a)) (e : intsOf xs = some l) : IsTupleKey (intKind pw w) h l a := by
  cases r with
  | tup ht r => obtain ⟨o, ho, hc, n, hd⟩ := ht; exact ⟨o, _, n, ho, hc, hd, intsOf_are r e⟩

theorem smet {id : String} {o : PV} {ov : Value} {vs : List PV} {us : List Value} {d : Nat} (Z : Wf w B) (h : WMet id o vs σ k) (R : Room A d) (S : St w B c env lm σ s.heap) (ro : Rel B s.heap o ov) (r : RelL B s.heap vs us)
    (K : Kont w B c env lm σ s k Q) : wpAny (model pw w) A (call (.builtin id) (ov :: us)) Q E s := by
  have hu : A.units + 1 < cLine := by have := R.units; show _ < 9900; omega
  cases h with
  | starts h => cases ro; cases r with | cons a r => cases r; cases a; exact SC.startswith (K.same (tk := s.toks) S h (.bool _))
  | find h => cases ro; cases r with | cons a r => cases r; cases a; exact SC.find (K.same S h (.int _ _))
  | upper h1 h2 => cases ro; cases r; exact SCL.upper (by omega) fun _ => K.same S h2 (.str _ _)
  | join ys l h1 h2 h3 h4 h5 =>
    cases ro; cases r with | cons a r =>
    cases r; cases a
    obtain ⟨_, vs, hl, rr⟩ := S.inv.own _ _ h1
    exact join_listC hl.isList (strsOf_are rr h2) h3 (by omega) fun t' k' => K.same S h5 (.str _ _)
  | append xs h1 h2 h3 =>
    cases ro; cases r with | cons a r =>
    cases r
    obtain ⟨_, vs, hl, rr⟩ := S.inv.own _ _ h1
    have e : xs.length = vs.size := by have := rr.length; simpa using this
    refine wpAny_list_append_plain hl (fun h' hl' hs' => ?_) (by rw [sizeLine_eq]; omega)
    have ki : ∀ b o, Imm o → s.heap.get? b = some o → h'.get? b = some o := fun b o i q => (hs'.2 b (fun z => S.inv.notImm h1 (z ▸ q) i)).trans q
    have hr : ORel w B h' _ (.list (xs ++ [_])) := ⟨_, hl', by rw [Array.toList_push]; exact (rr.mono ki).append (.cons (a.mono ki) .nil)⟩
    exact K.upd (tk := s.toks) S h1 hs' hr h3 .none
  | getS m f h1 h2 =>
    cases ro; cases r with | cons a r =>
    cases r with | cons b r =>
    cases r; cases a
    obtain ⟨_, g, hm, hl, hr⟩ := S.inv.own _ _ h1
    refine call_meetsIn PySem.F.slot_dict_get hm.typeIs PySem.F.entry_dict_get (PySem.F.args_dict_get_3 _ _ _) (meets_dict_get_default (strKind pw w) _ (strKind_is _ _ _ _) (own_ne_mods Z S.inv h1) _) ⟨_, hm.mapOf, ?_⟩
    exact K.same S h2 (optRel_getD (hr _) b)
  | getT m f l h0 h1 h2 =>
    cases ro; cases r with | cons a r =>
    cases r with | cons b r =>
    cases r
    cases a with
    | tup ht rr =>
    obtain ⟨_, ys, hm, hl, hr⟩ := S.inv.own _ _ h1
    refine call_meetsIn PySem.F.slot_dict_get hm.typeIs PySem.F.entry_dict_get (PySem.F.args_dict_get_3 _ _ _) (meetsH_dict_get_default (tupleKind (intKind pw w)) _ _ (own_ne_mods Z S.inv h1) _) ⟨hu, l, ys, key_of (.tup ht rr) h0, hm, ?_⟩
    exact K.same S h2 (optRel_getD (hr l) b)
  | getES h1 h2 =>
    cases ro; cases r with | cons a r =>
    cases r with | cons b r =>
    cases r; cases a
    obtain ⟨_, e⟩ := S.inv.own _ _ h1
    have hm := mapOf_empty (w := w) e
    exact call_meetsIn PySem.F.slot_dict_get hm.typeIs PySem.F.entry_dict_get (PySem.F.args_dict_get_3 _ _ _) (meets_dict_get_default (strKind pw w) _ (strKind_is _ _ _ _) (own_ne_mods Z S.inv h1) _) ⟨_, hm, K.same S h2 b⟩
  | getET l hl h1 h2 =>
    cases ro; cases r with | cons a r =>
    cases r with | cons b r =>
    cases r
    obtain ⟨_, e⟩ := S.inv.own _ _ h1
    cases a with
    | tup ht rr =>
    have hm := dictOfH_empty (w := w) e
    exact call_meetsIn PySem.F.slot_dict_get hm.typeIs PySem.F.entry_dict_get (PySem.F.args_dict_get_3 _ _ _) (meetsH_dict_get_default (tupleKind (intKind pw w)) _ _ (own_ne_mods Z S.inv h1) _) ⟨hu, l, [], key_of (.tup ht rr) hl, hm, K.same S h2 b⟩

theorem hand_rel {h : Heap} {p : PV} {v : Value} (r : Rel B h p v) (e : notCon p = true) : handedIn v = true := by
  cases r <;> first | rfl | cases e
theorem sattr {o : PV} {ov : Value} {n : Str} {k : PV → Prop} {b : Bool} (Z : Wf w B) (h : WAttr o n σ k) (S : St w B c env lm σ s.heap) (ro : Rel B s.heap o ov) (K : Kont w B c env lm σ s (fun v σ' => k v ∧ σ' = σ) Q) :
    wpAny (model pw w) A (getAttr ov n b) Q E s := by
  cases h with
  | mk C dx fs v h1 h2 h3 h4 h5 h6 =>
    cases ro
    have q := List.all_eq_true.mp (flds_ok w.params) (C, n) (by unfold fieldOk at h3; simpa using h3)
    simp only [Bool.and_eq_true, beq_iff_eq] at q
    obtain ⟨⟨⟨⟨⟨q1, q2⟩, q3⟩, q4⟩, q5⟩, q6⟩ := q
    obtain ⟨_, e1⟩ := S.inv.own _ _ h1
    obtain ⟨_, es, m, e2, fa⟩ := S.inv.own _ _ h2
    obtain ⟨u, e3, e4⟩ := flds_getL (n := n) fa
    rw [h4] at e4
    cases u with
    | none => exact e4.elim
    | some u =>
      obtain ⟨mm, F⟩ := S.F
      exact get_own F Z.X (inst_at e1 e2) q1 q2 q3 rfl e3 (hand_rel e4 h5) (K.same S ⟨h6, rfl⟩ e4)

noncomputable def allN (B : Heap) (L : Addr) (h : Heap) : List (Addr × Obj) := (List.range h.objs.size).filterMap fun a => if (B.get? a).isNone = true ∧ a ≠ L then (h.get? a).map fun o => (a, o) else none
theorem mem_allN {L a : Addr} {h : Heap} {o : Obj} : (a, o) ∈ allN B L h ↔ B.get? a = none ∧ a ≠ L ∧ h.get? a = some o := by
  unfold allN
  rw [List.mem_filterMap]
  constructor
  · rintro ⟨x, hx, e⟩
    split at e
    · rename_i q
      cases z : h.get? x with
      | none => rw [z] at e; cases e
      | some u => rw [z] at e; cases e; exact ⟨by simpa using q.1, q.2, z⟩
    · cases e
  · rintro ⟨h1, h2, h3⟩
    exact ⟨a, List.mem_range.mpr (Heap.lt_size h3), by rw [if_pos ⟨by simp [h1], h2⟩, h3]; rfl⟩
theorem pw_allN {L : Addr} {h : Heap} : (allN B L h).Pairwise fun p q => p.1 ≠ q.1 := by
  unfold allN
  refine List.Pairwise.filterMap (R := fun a b => a < b) _ (fun a b hab p hp q hq => ?_) List.pairwise_lt_range
  have key : ∀ (x : Addr) (p : Addr × Obj), (if (B.get? x).isNone = true ∧ x ≠ L then (h.get? x).map fun o => (x, o) else none) = some p → p.1 = x := fun x p e => by
    split at e
    · cases z : h.get? x with
      | none => rw [z] at e; cases e
      | some u => rw [z] at e; cases e; rfl
    · cases e
  rw [key a p hp, key b q hq]; exact Nat.ne_of_lt hab
theorem upd_of {d : Addr} {o o' : Obj} : ∀ {l : List (Addr × Obj)}, l.Pairwise (fun p q => p.1 ≠ q.1) → (d, o) ∈ l → Upd d o o' l (l.map fun p => if p.1 = d then (d, o') else p)
  | p :: r, hp, hm => by
    rw [List.pairwise_cons] at hp
    rcases List.mem_cons.mp hm with e | hm
    · subst e
      have : (r.map fun p => if p.1 = d then (d, o') else p) = r := by
        conv => rhs; rw [← List.map_id r]
        refine List.map_congr_left fun q hq => ?_
        have := hp.1 q hq
        rw [if_neg fun z => this z.symm]; rfl
      rw [List.map_cons, if_pos rfl, this]
      exact Upd.head fun q hq z => hp.1 q hq z.symm
    · have ne : p.1 ≠ d := hp.1 _ hm
      rw [List.map_cons, if_neg ne]
      exact Upd.tail ne (upd_of hp.2 hm)
theorem news_all {L : Addr} {h : Heap} : News B L h (allN B L h) := fun p hp => by
  obtain ⟨h1, h2, h3⟩ := mem_allN.mp (show (p.1, p.2) ∈ allN B L h from hp)
  exact ⟨h3, h2, h1⟩

theorem ssetattr {o v : PV} {ov vv : Value} {n : Str} {k : Sg → Prop} {Q : Unit → Shared → Prop} (Z : Wf w B) (h : WSetAttr o n v σ k) (S : St w B c env lm σ s.heap) (ro : Rel B s.heap o ov) (rv : Rel B s.heap v vv)
    (K : ∀ σ' h' tk, k σ' → St w B c env lm σ' h' → Aft w B σ σ' env.locals [] s.heap h' → Q () { s with heap := h', toks := tk }) : wpAny (model pw w) A (setAttr ov n vv) Q E s := by
  cases h with
  | mk C dx fs h1 h2 h3 h4 h5 =>
    cases ro
    have q := List.all_eq_true.mp (flds_ok w.params) (C, n) (by unfold fieldOk at h3; simpa using h3)
    simp only [Bool.and_eq_true, beq_iff_eq] at q
    obtain ⟨⟨⟨⟨⟨q1, q2⟩, q3⟩, q4⟩, q5⟩, q6⟩ := q
    obtain ⟨_, e1⟩ := S.inv.own _ _ h1
    obtain ⟨_, es, m, e2, fa⟩ := S.inv.own _ _ h2
    have hB := S.inv.newB h2
    obtain ⟨u, e3, e4⟩ := flds_getL (n := n) fa
    obtain ⟨mm, F⟩ := S.F
    have hL : dx ≠ env.locals := fun z => by have := S.ok.l; rw [← z, h2] at this; cases this
    refine set_dict F Z.X news_all (inst_at e1 e2) rfl q6 q4 q5 q2 (by rw [e3]; rfl) rfl (upd_of pw_allN (mem_allN.mpr ⟨hB, hL, e2⟩)) ?_ fun h' F' N' => ?_
    · have := putL_len n (PyData.keyHash w.params n) (.str n (s.toks + 1)) vv es
      have := flds_len fa
      omega
    · have hs : ∀ b o, b ≠ dx → b ≠ env.locals → s.heap.get? b = some o → h'.get? b = some o := fun b o hb hl e => by
        cases z : B.get? b with
        | some o' => have z' := S.inv.base b o' z; rw [e] at z'; cases z'; exact F'.keep b o z
        | none => exact (N' (b, o) (List.mem_map.mpr ⟨(b, o), mem_allN.mpr ⟨z, hl, e⟩, by rw [if_neg hb]⟩)).1
      have hd := (N' (dx, _) (List.mem_map.mpr ⟨(dx, _), mem_allN.mpr ⟨hB, hL, e2⟩, by rw [if_pos rfl]⟩)).1
      have ki : ∀ b o, Imm o → s.heap.get? b = some o → h'.get? b = some o := fun b o i e => hs b o (fun z => S.inv.notImm h2 (z ▸ e) i) (fun z => S.fr.notImm o (z ▸ e) i) e
      have hLo : ∃ o, h'.get? env.locals = some o := let ⟨o, _, _, e, _⟩ := F'.ns; ⟨o, e⟩
      have X : Aft w B σ (sset σ dx (.flds (putF n v fs))) env.locals [] s.heap h' := Aft.update S.inv h2 F'.keep hs (fun _ _ => hLo) S.ok.l S.fr.notImm hd
        ⟨_, _, hd, (flds_put rv fa).mono ki⟩ nofun
      refine K _ h' _ h5 ?_ X
      obtain ⟨m₀, hm₀, _⟩ := S.fr
      refine S.step X fun m' hm' => ?_
      rw [ns_unique hm' F.ns]
      exact F'.ns
end
end
section
open PySem PySem.W PyProof.Rows PySem.Calls
theorem valueAt_stored {K : Type} [DecidableEq K] (kvs : List (K × Value)) (k : K) (v : Value) (x : K) : valueAt (stored kvs k v) x = if x = k then some v else valueAt kvs x := by
  unfold stored
  by_cases q : kvs.any (fun kv => kv.1 = k) = true
  · rw [if_pos q]
    unfold valueAt
    induction kvs with
    | nil => simp at q
    | cons a r ih =>
      simp only [List.map_cons, List.find?_cons]
      by_cases e : a.1 = k
      · by_cases ex : x = k
        · simp [e, ex]
        · have : ¬ k = x := fun z => ex z.symm
          have n1 : ¬ a.1 = x := by rw [e]; exact this
          simp only [e, if_true, decide_eq_false this, if_neg ex, Bool.false_eq_true]
          clear ih q
          induction r with
          | nil => rfl
          | cons b r ih2 =>
            simp only [List.map_cons, List.find?_cons]
            by_cases eb : b.1 = k
            · have n2 : ¬ b.1 = x := by rw [eb]; exact this
              simp only [if_pos eb, decide_eq_false n2]; exact ih2
            · simp only [if_neg eb]
              by_cases eb' : b.1 = x
              · simp [eb']
              · simp only [decide_eq_false eb']; exact ih2
      · have q' : r.any (fun kv => kv.1 = k) = true := by simpa [e] using q
        simp only [if_neg e]
        by_cases ea : a.1 = x
        · have ex : ¬ x = k := fun z => e (ea.trans z)
          simp [ea, ex]
        · simp only [decide_eq_false ea]; exact ih q'
  · rw [if_neg q]
    unfold valueAt
    rw [List.find?_append]
    have hn : ∀ kv ∈ kvs, ¬ kv.1 = k := fun kv hk z => q (List.any_eq_true.mpr ⟨kv, hk, by simp [z]⟩)
    by_cases ex : x = k
    · subst ex
      have : (kvs.find? fun kv => decide (kv.1 = x)) = none := by rw [List.find?_eq_none]; intro kv hk; simpa using hn kv hk
      rw [this]; simp
    · have : ¬ k = x := fun z => ex z.symm
      simp [ex, this]
theorem atKey_putAt {K : Type} [DecidableEq K] (xs : List (K × Addr × Value)) (k : K) (v : Value) (x : K) : (atKey (xs.map (putAt k v)) x).map (·.2) = if x = k ∧ (atKey xs k).isSome then some v else (atKey xs x).map (·.2) := by
  unfold atKey
  induction xs with
  | nil => simp
  | cons a r ih =>
    simp only [List.map_cons, List.find?_cons]
    unfold putAt at ih ⊢
    by_cases e : a.1 = k
    · by_cases ex : x = k
      · simp [e, ex]
      · have : ¬ k = x := fun z => ex z.symm
        have n1 : ¬ a.1 = x := by rw [e]; exact this
        simp only [if_pos e, n1, decide_false, ih, ex, false_and, if_false]
    · simp only [if_neg e, decide_eq_false e]
      by_cases ea : a.1 = x
      · have ex : ¬ x = k := fun z => e (ea.trans z)
        simp [ea, ex]
      · simp only [decide_eq_false ea]; exact ih
theorem atKey_storedH {K : Type} [DecidableEq K] (xs : List (K × Addr × Value)) (k : K) (a : Addr) (v : Value) (x : K) : (atKey (storedH xs k a v) x).map (·.2) = if x = k then some v else (atKey xs x).map (·.2) := by
  cases e : atKey xs k with
  | some p => rw [storedH_old e, atKey_putAt, e]; simp
  | none =>
    rw [storedH_new e]
    by_cases ex : x = k
    · subst ex
      unfold atKey at e ⊢
      rw [List.find?_append]
      have : (xs.find? fun y => decide (y.1 = x)) = none := by simpa using e
      rw [this]; simp
    · have : ¬ k = x := fun z => ex z.symm
      unfold atKey
      rw [List.find?_append]; simp [ex, this]
theorem storedH_len {K : Type} [DecidableEq K] (xs : List (K × Addr × Value)) (k : K) (a : Addr) (v : Value) : (storedH xs k a v).length ≤ xs.length + 1 := by
  cases e : atKey xs k with
  | some p => rw [storedH_old e]; simp
  | none => rw [storedH_new e]; simp

section
variable {w : World} {B : Heap} {c : Cx} {env : Env} {lm : LM} {σ : Sg} {A : Around} {E : Value → Shared → Prop} {s : Shared} {k : PV → Sg → Prop} {Q : Value → Shared → Prop}

/-- what is to be shown behind a step that hands on nothing -/
noncomputable abbrev KontU (w : World) (B : Heap) (c : Cx) (env : Env) (lm : LM) (σ : Sg) (s : Shared) (k : Sg → Prop) (Q : Unit → Shared → Prop) : Prop :=
  ∀ σ' h' tk, k σ' → St w B c env lm σ' h' → Aft w B σ σ' env.locals [] s.heap h' → Q () { s with heap := h', toks := tk }
theorem KontU.upd {k : Sg → Prop} {Q : Unit → Shared → Prop} (K : KontU w B c env lm σ s k Q) (S : St w B c env lm σ s.heap) {a : Addr} {o₀ ao : AO} {h' : Heap} {tk : Nat} (ha : σ a = some o₀) (hs : Heap.SameBut a s.heap h') (hr : ORel w B h' a ao)
    (h : k (sset σ a ao)) (hd : isD ao = true → isD o₀ = true := by exact fun q => q) : Q () { s with heap := h', toks := tk } := by
  have X := Aft.updS (L := env.locals) (cl := []) S.inv ha S.ok.l S.fr.notImm hs hr hd
  refine K _ h' tk h (S.stepX X fun o e => (hs.2 _ fun q => ?_).trans e) X
  have := S.ok.l; rw [q, ha] at this; cases this
theorem dictOf_empty {h : Heap} {a : Addr} (e : h.get? a = some (dictOf [] 0)) : h.DictOf (strKind pw w) a [] :=
  ⟨_, #[], 0, e, ⟨rfl, rfl, rfl⟩, rfl, fun _ he => by simp at he, .nil, .nil⟩
theorem optRel_ite {B h : Heap} {p q : Option PV} {v u : Option Value} {c : Prop} [Decidable c] (r : OptRel B h p v) (t : OptRel B h q u) : OptRel B h (if c then p else q) (if c then v else u) := by
  split <;> assumption

theorem ssetitem {o i v : PV} {ov iv vv : Value} {d : Nat} {k : Sg → Prop} {Q : Unit → Shared → Prop} (h : WSetItem o i v σ k) (R : Room A d) (S : St w B c env lm σ s.heap) (ro : Rel B s.heap o ov) (ri : Rel B s.heap i iv) (rv : Rel B s.heap v vv)
    (K : KontU w B c env lm σ s k Q) : wpAny (model pw w) A (setItem ov iv vv) Q E s := by
  have hu : A.units + 1 < cLine := by have := R.units; show _ < 9900; omega
  have kim : ∀ {a : Addr} {o₀ : AO} {h' : Heap}, σ a = some o₀ → Heap.SameBut a s.heap h' → ∀ b o, Imm o → s.heap.get? b = some o → h'.get? b = some o := fun {a} {o₀} {h'} h1 hs' b o i q => (hs'.2 b (fun z => S.inv.notImm h1 (z ▸ q) i)).trans q
  cases h with
  | @list aa j _ _ _ xs h1 h0 h2 h3 h4 =>
    cases ro; cases ri
    obtain ⟨_, vs, ⟨n, hl⟩, r⟩ := S.inv.own _ _ h1
    have e : xs.length = vs.size := by have := r.length; simpa using this
    refine ki_setAt hl h0 (by omega) (by omega) ?_
    have hs := Heap.SameBut.update s.heap aa (Obj.mapSeq (·.setIfInBounds j.toNat vv))
    refine K.upd (tk := s.toks) S h1 hs ?_ h4
    refine ⟨_, ⟨_, PySem.IsL.update hl (·.setIfInBounds j.toNat vv)⟩, ?_⟩
    rw [Array.toList_setIfInBounds]
    exact (r.mono (kim h1 hs)).set _ (rv.mono (kim h1 hs))
  | e h1 h2 =>
    cases ro; cases ri
    obtain ⟨_, e⟩ := S.inv.own _ _ h1
    refine wpAny_setItem_pairs (strKind_is _ _ _ _) (dictOf_empty (w := w) e) (fun h' hm hs => K.upd S h1 hs (show ORel _ _ _ _ (.sdict _ _) from ⟨_, hm, by simp [stored], fun y => ?_⟩) h2) (by simp)
    rw [valueAt_stored]
    exact optRel_ite (p := some _) (v := some _) (rv.mono (kim h1 hs)) trivial
  | s m f h1 h2 h3 =>
    cases ro; cases ri
    obtain ⟨_, kvs, hm, hl, hr⟩ := S.inv.own _ _ h1
    refine wpAny_setItem_pairs (strKind_is _ _ _ _) hm (fun h' hm hs => K.upd S h1 hs (show ORel _ _ _ _ (.sdict _ _) from ⟨_, hm, Nat.le_trans (stored_length_le _ _ _) (by omega), fun y => ?_⟩) h3) (by rw [sizeLine_eq]; omega)
    rw [valueAt_stored]
    exact optRel_ite (p := some _) (v := some _) (rv.mono (kim h1 hs)) ((hr y).mono (kim h1 hs))
  | te l h0 h1 h2 =>
    cases ro
    obtain ⟨_, e⟩ := S.inv.own _ _ h1
    cases ri with
    | tup ht r =>
    refine wpAny_setItem_heap (tupleKind_room_in1 hu) (key_of (.tup ht r) h0) (dictOfH_empty (w := w) e) (fun h' hm hs => K.upd S h1 hs (show ORel _ _ _ _ (.tdict _ _) from ⟨_, hm, storedH_len _ _ _ _, fun y => ?_⟩) h2) (by simp)
    rw [atKey_storedH]
    exact optRel_ite (p := some _) (v := some _) (rv.mono (kim h1 hs)) trivial
  | t l m f h0 h1 h2 h3 =>
    cases ro
    obtain ⟨_, kvs, hm, hl, hr⟩ := S.inv.own _ _ h1
    cases ri with
    | tup ht r =>
    refine wpAny_setItem_heap (tupleKind_room_in1 hu) (key_of (.tup ht r) h0) hm (fun h' hm hs => K.upd S h1 hs (show ORel _ _ _ _ (.tdict _ _) from ⟨_, hm, Nat.le_trans (storedH_len _ _ _ _) (by omega), fun y => ?_⟩) h3) (by rw [sizeLine_eq]; omega)
    rw [atKey_storedH]
    exact optRel_ite (p := some _) (v := some _) (rv.mono (kim h1 hs)) ((hr y).mono (kim h1 hs))

theorem relL_ints {B h : Heap} : ∀ {vs : List Value} {ns : List Int}, IntsAre vs ns → RelL B h (ns.map .int) vs
  | _, _, .nil => .nil
  | _, _, .cons i t r => .cons (.int i t) (relL_ints r)
theorem part_of {lo : Option Int} {vl : Value} (h : match lo with | none => vl = .none | some i => ∃ t, vl = .int i t) : IsPart vl lo := by
  cases lo with
  | none => subst h; exact .none
  | some i => obtain ⟨t, rfl⟩ := h; exact .int _ _

theorem scut {o : PV} {ov vl vu : Value} {lo hi : Option Int} {value : Expr} {l u : Option Expr} {p : Pos} (h : WCut o lo hi σ k) (S : St w B c env lm σ s.heap) (ro : Rel B s.heap o ov) (pl : IsPart vl lo) (pu : IsPart vu hi)
    (K : Kont w B c env lm σ s k Q) : wpAny (model pw w) A (subscriptTail value (.Slice l u none p) ov (.ref s.heap.objs.size)) Q E { s with heap := s.heap.push { cls := .type "slice", data := .fields #[vl, vu, .none] } } := by
  have kk : ∀ b o, s.heap.get? b = some o → (s.heap.push { cls := .type "slice", data := .fields #[vl, vu, .none] }).get? b = some o := fun b o e => Heap.get?_push_of_some _ e
  cases h with
  | str h1 h2 =>
    cases ro; cases pl; cases pu
    refine tail_any (ops := [_, _]) (typeIs_str _ _ _) slot_str_getitem.lookup (wpAny_getItem_str_slice (l := none) (u := some (_, _)) (st := none) ⟨_, Heap.get?_push_size _ rfl, rfl, rfl⟩ rfl (post_val_or_str ⟨?_, fun t' tk => ?_⟩)) rfl
    · exact Nat.le_trans (Txt.slice_le _ _ _) (by rw [sizeLine_eq]; omega)
    · exact K.keeps S kk h2 (.str _ _)
  | @list a i1 i2 _ _ xs h3 h0 h1 h2 h4 h5 h6 =>
    cases ro; cases pl; cases pu
    obtain ⟨_, vs, hl, r⟩ := S.inv.own _ _ h3
    have e : xs.length = vs.size := by have := r.length; simpa using this
    refine tail_any (ops := [_, _]) (hl.isList.push _).typeIs slot_list_getitem.lookup (wpAny_getItem_list_slice (hl.isList.push _) (Heap.IsSliceOf.new ..) (.int _ _) (.int _ _) .none (by simp) ?_ (by rw [sizeLine_eq]; omega)) rfl
    refine K.alloc (tk := s.toks) S (fun b o e => Heap.get?_push_of_some _ (kk b o e)) (by rw [Heap.size_push]; omega) (show ORel _ _ _ _ (.list _) from ⟨_, ⟨0, Heap.get?_push_size _ rfl⟩, ?_⟩) h6
    obtain ⟨n1, rfl⟩ := Int.eq_ofNat_of_zero_le h0
    obtain ⟨n2, rfl⟩ := Int.eq_ofNat_of_zero_le (a := i2) (by omega)
    rw [slicePick_run _ _ _ (by omega) (by omega)]
    have e2 : ((vs.toList.drop n1).take (n2 - n1)) = (vs.toList.take n2).drop n1 := by rw [List.drop_take]
    simp only [Int.toNat_natCast, e2]
    exact ((r.take _).drop _).mono fun b o _ e => Heap.get?_push_of_some _ (kk b o e)
  | blist h0 h1 h2 h3 =>
    cases pl; cases pu
    cases ro with
    | @blist j vs ns hb hi =>
    obtain ⟨n2, rfl⟩ := Int.eq_ofNat_of_zero_le h0
    have hl : s.heap.IsList j vs.toArray := let ⟨o, e, r⟩ := hb; ⟨o, S.inv.base _ _ e, r⟩
    have e := hi.length
    refine tail_any (ops := [_, _]) (hl.push _).typeIs slot_list_getitem.lookup (wpAny_getItem_list_slice (hl.push _) (Heap.IsSliceOf.new ..) .none (.int _ _) .none (by simp) ?_ (by rw [sizeLine_eq]; simp; omega)) rfl
    refine K.alloc (tk := s.toks) S (fun b o e => Heap.get?_push_of_some _ (kk b o e)) (by rw [Heap.size_push]; omega) (show ORel _ _ _ _ (.list _) from ⟨_, ⟨0, Heap.get?_push_size _ rfl⟩, ?_⟩) h3
    rw [slicePick_upto']
    simp only [Int.toNat_natCast]
    exact relL_ints (hi.take n2)
end
end
section
open PySem PySem.W PyProof.Rows PySem.Calls
section
variable {w : World} {B : Heap} {c : Cx} {env : Env} {lm : LM} {σ : Sg} {A : Around} {E : Value → Shared → Prop} {s : Shared} {k : PV → Sg → Prop} {Q : Value → Shared → Prop}

theorem debug_ne {x : Str} (h : x ≠ Str.ofString "__debug__") : (x == ("__debug__" : Str)) = false := beq_eq_false_iff_ne.mpr h

theorem sname {x : Str} {p : Pos} (Z : Wf w B) (h : match lm x with | some v => k v σ | none => c.kind x = some .globalImplicit ∧ (match glob x with | some v => k v σ | none => False)) (S : St w B c env lm σ s.heap) (K : Kont w B c env lm σ s k Q) :
    wpAny (model pw w) A (eval (.Name x p) env) Q E s := by
  have nd : ∀ kd, env.kindOf x = some kd → x ≠ Str.ofString "__debug__" := fun kd e q => by rw [q, S.eo.dbg] at e; cases e
  have nc : ∀ kd, env.kindOf x = some kd → (x == ("__classdict__" : Str)) = false := fun kd e => beq_eq_false_iff_ne.mpr fun q => by rw [q] at e; rw [show env.kindOf ("__classdict__" : Str) = none from S.eo.cdc] at e; cases e
  cases e : lm x with
  | some v =>
    rw [e] at h
    obtain ⟨m, hn, hr⟩ := S.fr
    rcases hr x v e with ⟨h1, u, h2, h3⟩ | ⟨h1 | h1, cc, u, h2, h3, h4⟩
    · exact wpAny_Name (wpAny_loadName_local S.eo.fn h1 hn h2 (K.same (tk := s.toks) S h h3)) (debug_ne (nd _ h1))
    · exact wpAny_Name (wpAny_loadName_cell S.eo.fn h1 h2 h3 (K.same (tk := s.toks) S h h4)) (debug_ne (nd _ h1))
    · exact wpAny_Name (wpAny_loadName_free S.eo.fn h1 h2 h3 (K.same (tk := s.toks) S h h4) (nc _ h1)) (debug_ne (nd _ h1))
  | none =>
    rw [e] at h
    obtain ⟨h1, h2⟩ := h
    have hk := S.eo.k x _ h1 nofun
    refine Name_function_global S.eo.fn hk ?_ (debug_ne (nd _ hk))
    obtain ⟨mg, hg⟩ := Z.g
    obtain ⟨mb, hb, hb'⟩ := Z.b
    have X := Z.X
    have hg' : s.heap.Ns env.globals mg := by rw [S.eo.g]; exact hg.at' (S.inv.base _)
    have hb'' : s.heap.Ns env.builtins mb := by rw [S.eo.b]; exact hb.at' (S.inv.base _)
    unfold glob at h2
    cases e : globTab.lookup x with
    | some v =>
      rw [e] at h2
      have q := List.all_eq_true.mp (globs_ok w.params) _ (lookup_mem e)
      split at q
      · rename_i u eu
        exact loadGlobal_global hg' (mg_of X hg eu) (K.same (tk := s.toks) S h2 (rel_vEq q))
      · cases q
    | none =>
      rw [e] at h2
      dsimp only at h2
      cases e' : builtTab.lookup x with
      | none => rw [e'] at h2; exact h2.elim
      | some v =>
        rw [e'] at h2
        have q := List.all_eq_true.mp (builts_ok w.params) _ (lookup_mem e')
        rw [Bool.and_eq_true] at q
        obtain ⟨q, q'⟩ := q
        split at q
        · rename_i u eu ev
          have hx : x ≠ "__name__" := by simpa using q'
          exact loadGlobal_builtin hg' (mg_none_of X hg eu) hb'' ((hb' x hx).trans ev) (K.same (tk := s.toks) S h2 (rel_vEq q))
        · cases q

/-- what is to be shown behind a step of a statement -/
noncomputable abbrev KontS (w : World) (B : Heap) (c : Cx) (env : Env) (σ : Sg) (s : Shared) (k : LM → Sg → Prop) (Q : Shared → Prop) : Prop :=
  ∀ lm' σ' h' tk, k lm' σ' → St w B c env lm' σ' h' → Aft w B σ σ' env.locals (env.cells.map (·.2)) s.heap h' → Q { s with heap := h', toks := tk }

theorem lookup_mem2 {x : Str} {a : Addr} {l : List (Str × Addr)} (h : l.lookup x = some a) : a ∈ l.map (·.2) := List.mem_map_of_mem (lookup_mem h)
theorem cell_notImm {h : Heap} {a : Addr} {v : Option Value} (x : h.IsCell a v) : ∀ o, h.get? a = some o → ¬ Imm o := fun o e i => by
  obtain ⟨o', e', d⟩ := x
  rw [e] at e'; cases e'
  rcases i with ⟨_, _, q, _⟩ | ⟨_, q, _⟩ <;> rw [d] at q <;> cases q
theorem baseOf (I : Inv w B σ s.heap) {a : Addr} (h : B.get? a = none) {h' : Heap} (hs : Heap.SameBut a s.heap h') : ∀ b o, B.get? b = some o → h'.get? b = some o := fun b o e => (hs.2 b (fun q => by rw [q, h] at e; cases e)).trans (I.base b o e)

/-- the frame's own dict, or a cell: not an object of the call's own -/
theorem Aft.side {cl : List Addr} (I : Inv w B σ s.heap) {a : Addr} {h' : Heap} (hs : Heap.SameBut a s.heap h') (ha : σ a = none) (hB : B.get? a = none) (hi : ∀ o, s.heap.get? a = some o → ¬ Imm o) (h1 : ∃ o, h'.get? a = some o) (hc : a = env.locals ∨ a ∈ cl) : Aft w B σ σ env.locals cl s.heap h' where
  inv := ⟨baseOf I hB hs, fun b o e => ⟨(I.own b o e).1, ORel.mono (fun b o i e => (hs.2 b fun q => hi o (q ▸ e) i).trans e) (fun ob e' => (hs.2 b fun q => by rw [q, ha] at e; cases e).trans e') (I.own b o e).2⟩⟩
  keep := fun b o e c => (hs.2 b (by
    rintro rfl
    rcases c with c | ⟨c1, c2, _⟩
    · exact hi o e c
    · rcases hc with hc | hc
      · exact c1 hc
      · exact c2 hc)).trans e
  alive := fun b o e => by
    by_cases q : b = a
    · exact q ▸ h1
    · exact ⟨o, (hs.2 b q).trans e⟩
  dom := fun _ x => .inl x

theorem sstore {x : Str} {v : PV} {vv : Value} {Q : Unit → Shared → Prop} (hx : c.kind x = some .local ∨ c.kind x = some .cell) (S : St w B c env lm σ s.heap) (r : Rel B s.heap v vv)
    (K : KontS w B c env σ s (fun lm' σ' => lm' = upd lm x v ∧ σ' = σ) (Q ())) : wpAny (model pw w) A (storeName env x vv) Q E s := by
  have hp : (env.scope.kind == .class || (env.scope.kind == .module && env.locals != env.globals)) = false := by rw [S.eo.fn]; rfl
  obtain ⟨m, hn, hr⟩ := S.fr
  rcases hx with hx | hx
  · have hk := S.eo.k x _ hx nofun
    refine wpAny_storeName_local hk hn (fun h' hn' hs => ?_) hp
    have hnB : B.get? env.locals = none := by
      cases q : B.get? env.locals with
      | none => rfl
      | some o => exact absurd (Heap.lt_size q) (Nat.not_lt.mpr S.ok.lb)
    have X : Aft w B σ σ env.locals (env.cells.map (·.2)) s.heap h' := Aft.side S.inv hs S.ok.l hnB S.fr.notImm (let ⟨o, _, _, e, _⟩ := hn'; ⟨o, e⟩) (.inl rfl)
    refine K (upd lm x v) σ h' _ ⟨rfl, rfl⟩ ⟨S.eo, X.inv, ⟨_, hn', fun y u e => ?_⟩, S.ok.l, S.ok.lb, S.ok.cb, fun y a e => ?_⟩ X
    · unfold upd at e
      by_cases q : y = x
      · rw [if_pos q] at e; cases e
        exact .inl ⟨q ▸ hk, vv, by rw [if_pos q], r.mono X.imm⟩
      · rw [if_neg q] at e
        refine (hr y u e).imp (fun ⟨a, z, b, d⟩ => ⟨a, z, by rw [if_neg q]; exact b, d.mono X.imm⟩) fun ⟨a, cc, z, b, ⟨o, o1, o2⟩, d⟩ => ⟨a, cc, z, b, ⟨o, (hs.2 _ (S.ok.cell y cc b).2.1).trans o1, o2⟩, d.mono X.imm⟩
    · obtain ⟨c1, c2, u, o, c3, c4⟩ := S.ok.cell y a e
      exact ⟨c1, c2, u, o, (hs.2 _ c2).trans c3, c4⟩
  · have hk := S.eo.k x _ hx nofun
    obtain ⟨a, ha⟩ := S.eo.cel x hx
    obtain ⟨c1, c2, u₀, hc⟩ := S.ok.cell x a ha
    refine wpAny_storeName_cell S.eo.fn hk ha hc fun h' hc' hs => ?_
    have X : Aft w B σ σ env.locals (env.cells.map (·.2)) s.heap h' := Aft.side S.inv hs c1 (S.ok.cb x a ha) (cell_notImm hc) (let ⟨o, e, _⟩ := hc'; ⟨o, e⟩) (.inr (lookup_mem2 ha))
    refine K (upd lm x v) σ h' _ ⟨rfl, rfl⟩ ⟨S.eo, X.inv, ⟨m, hn.at' fun o e => (hs.2 _ fun q => c2 q.symm).trans e, fun y u e => ?_⟩, S.ok.l, S.ok.lb, S.ok.cb, fun y b e => ?_⟩ X
    · unfold upd at e
      by_cases q : y = x
      · rw [if_pos q] at e; cases e
        exact .inr ⟨.inl (q ▸ hk), a, vv, q ▸ ha, hc', r.mono X.imm⟩
      · rw [if_neg q] at e
        refine (hr y u e).imp (fun ⟨a, z, b, d⟩ => ⟨a, z, b, d.mono X.imm⟩) fun ⟨a', cc, z, b, ⟨o, o1, o2⟩, d⟩ => ⟨a', cc, z, b, ⟨o, (hs.2 _ fun q' => q (S.eo.apart y x a (q' ▸ b) ha)).trans o1, o2⟩, d.mono X.imm⟩
    · by_cases q : b = a
      · exact ⟨(S.ok.cell y b e).1, (S.ok.cell y b e).2.1, some vv, q ▸ hc'⟩
      · obtain ⟨c1, c2, u, o, c3, c4⟩ := S.ok.cell y b e
        exact ⟨c1, c2, u, o, (hs.2 _ q).trans c3, c4⟩

theorem get_push_new {h : Heap} {o : Obj} (hf : o.isFreed = false) : (h.push o).get? h.objs.size = some o := Heap.get?_push_size _ hf

/-- an iterator over what a for goes over -/
structure Iter (w : World) (A : Around) (I : Addr) (fp : List Addr) (vs : List PV) (B h : Heap) (h₁ : Heap) (iv : PV) (σ : Sg) (P : Nat → Value → Prop) (G : Nat → Heap → Prop) : Prop where
  walks : Walks pw w A I fp [I] vs.length P G
  zero : G 0 h₁
  low : ∀ b ∈ fp, b < h₁.objs.size
  item : ∀ i u, P i u → ∃ p, vs[i]? = some p ∧ ∀ h', (∀ b o, Imm o → h.get? b = some o → h'.get? b = some o) → Rel B h' p u
  notImm : ∀ i h o, G i h → h.get? I = some o → ¬ Imm o
  there : ∀ i h, G i h → ∃ o, h.get? I = some o
  still : ∀ b ∈ fp, b ≠ I → ∃ o, h.get? b = some o ∧ (Imm o ∨ ∃ xs, iv = .ref b ∧ σ b = some (.list xs))

theorem relL_item {h : Heap} {ps : List PV} {vs : Array Value} (r : RelL B h ps vs.toList) {i : Nat} {u : Value} (e : vs[i]? = some u) : ∃ p, ps[i]? = some p ∧ ∀ h', (∀ b o, Imm o → h.get? b = some o → h'.get? b = some o) → Rel B h' p u := by
  obtain ⟨p, h1, h2⟩ := r.getV i (by rw [Array.getElem?_toList]; exact e)
  exact ⟨p, h1, fun h' k => h2.mono k⟩
theorem fields_notImm {o : Obj} {vs : Array Value} {n : String} (h1 : o.data = .fields vs) (h2 : o.cls = .type n) (h3 : n ≠ "range") : ¬ Imm o := by
  rintro (⟨_, _, q, _⟩ | ⟨_, _, q⟩)
  · rw [h1] at q; cases q
  · rw [h2] at q; exact h3 (Value.type.inj q)

theorem sign_rel {x : Str} {i : Nat} {u : Value} (h : SignAt x i u) : ∃ p, (x.cps.toList.map fun c => PV.str ⟨#[c]⟩)[i]? = some p ∧ ∀ h', (∀ b o, Imm o → s.heap.get? b = some o → h'.get? b = some o) → Rel B h' p u := by
  obtain ⟨cc, t, h1, rfl⟩ := h
  exact ⟨.str ⟨#[cc]⟩, by simp [h1], fun _ _ => .str _ _⟩
theorem small_of {n : Int} (h : n.natAbs < 2 ^ 62) : Builtin.Range.small 0 n 1 = true ∧ Builtin.Range.rangeSize 0 n 1 = n.toNat := by
  have e : Builtin.Range.rangeSize 0 n 1 = n.toNat := by
    unfold Builtin.Range.rangeSize
    split <;> simp <;> omega
  refine ⟨?_, e⟩
  unfold Builtin.Range.small
  rw [e]
  simp [Builtin.Range.rangeFitsLong]
  omega

theorem siter {iv : PV} {v : Value} {vs : List PV} (h : items iv σ = some vs) (hl : vs.length ≤ 1000000) (S : St w B c env lm σ s.heap) (r : Rel B s.heap iv v)
    (hQ : ∀ o fp P G, (∀ A' : Around, A'.handled = none → Iter w A' s.heap.objs.size fp vs B s.heap (s.heap.push o) iv σ P G) → Q (.ref s.heap.objs.size) { s with heap := s.heap.push o }) : wpAny (model pw w) A (pyIter v) Q E s := by
  cases iv with
  | str x =>
    cases Option.some.inj h
    cases r with | str _ tt =>
    cases ha : x.cps.all (· < 128)
    · refine wpAny_pyIter_wide ha (hQ _ [s.heap.objs.size] (SignAt x) (fun i h => h.IsStrIter s.heap.objs.size "str_iterator" x tt i) fun A' hA => ⟨(by rw [List.length_map, Array.length_toList]; exact Walks.strWide hA _ x tt), ⟨_, Heap.get?_push_size _ rfl, rfl, rfl⟩, by simp [Heap.size_push], fun i u hi => sign_rel hi, ?_, fun i h ⟨o, e, _⟩ => ⟨o, e⟩, by simp⟩)
      rintro i h o ⟨o', e1, e2, e3⟩ e
      rw [e] at e1; cases e1
      exact fields_notImm e3 e2 (by decide)
    · refine wpAny_pyIter_ascii ha (hQ _ [s.heap.objs.size] (SignAt x) (fun i h => h.IsStrIter s.heap.objs.size "str_ascii_iterator" x tt i) fun A' hA => ⟨(by rw [List.length_map, Array.length_toList]; exact Walks.strAscii hA _ x tt), ⟨_, Heap.get?_push_size _ rfl, rfl, rfl⟩, by simp [Heap.size_push], fun i u hi => sign_rel hi, ?_, fun i h ⟨o, e, _⟩ => ⟨o, e⟩, by simp⟩)
      rintro i h o ⟨o', e1, e2, e3⟩ e
      rw [e] at e1; cases e1
      exact fields_notImm e3 e2 (by decide)
  | tup xs =>
    cases Option.some.inj h
    cases r with
    | @tup t its _ ht r =>
    have e : vs.length = its.size := by have := r.length; simpa using this
    have hne : t ≠ s.heap.objs.size := by obtain ⟨o, ho, _⟩ := ht; exact Nat.ne_of_lt (Heap.lt_size ho)
    refine wpAny_pyIter_tuple ht (hQ _ [s.heap.objs.size, t] (fun i u => its[i]? = some u) _ fun A' hA => ⟨e ▸ Walks.tuple hA _ t hne its, ⟨⟨_, Heap.get?_push_size _ rfl, rfl, rfl⟩, ht.at fun o e => Heap.get?_push_of_some _ e⟩, ?_, fun i u hi => relL_item r hi, ?_, fun i h ⟨⟨o, e, _⟩, _⟩ => ⟨o, e⟩, ?_⟩)
    · intro b hb
      rw [Heap.size_push]
      obtain ⟨o, ho, _⟩ := ht
      rcases List.mem_cons.mp hb with rfl | hb
      · exact Nat.lt_succ_self _
      · rw [List.mem_singleton.mp hb]; exact Nat.lt_succ_of_lt (Heap.lt_size ho)
    · rintro i h o ⟨⟨o', e1, e2, e3⟩, _⟩ e
      rw [e] at e1; cases e1
      exact fields_notImm e3 e2 (by decide)
    · intro b hb hn
      rcases List.mem_cons.mp hb with rfl | hb
      · exact absurd rfl hn
      · rw [List.mem_singleton.mp hb]
        obtain ⟨o, ho, hc, n, hd⟩ := ht
        exact ⟨o, ho, .inl (.inl ⟨_, _, hd, hc⟩)⟩
  | rng n =>
    cases Option.some.inj h
    cases r with
    | rng hr hn =>
    obtain ⟨q1, q2⟩ := small_of hn
    have e : ((List.range n.toNat).map fun (i : Nat) => PV.int (i : Int)).length = n.toNat := by simp
    refine wpAny_pyIter_range hr q1 (hQ _ [s.heap.objs.size] (fun i v => i < n.toNat ∧ ∃ t, v = .int (0 + i * 1) t) (fun i h => IsRangeIter h s.heap.objs.size (0 + (i : Nat) * 1) ((n.toNat : Int) - (i : Nat)) 1) fun A' hA => ⟨by rw [e]; exact (Walks.range hA _ 0 1 _).bound, ?_, by simp [Heap.size_push], ?_, ?_, fun i h e => ⟨_, e⟩, by simp⟩)
    · rw [q2]
      show IsRangeIter _ _ (0 + ((0 : Nat) : Int) * 1) ((n.toNat : Int) - ((0 : Nat) : Int)) 1
      rw [show (0 : Int) + ((0 : Nat) : Int) * 1 = 0 by rfl, show (n.toNat : Int) - ((0 : Nat) : Int) = (n.toNat : Int) by omega]
      exact Heap.get?_push_size _ rfl
    · rintro i u ⟨hi, t', rfl⟩
      refine ⟨.int (i : Int), by simp [hi], fun _ _ => ?_⟩
      rw [show (0 : Int) + (i : Int) * 1 = (i : Int) by omega]
      exact .int _ _
    · rintro i h o e1 e
      have e1 : h.get? _ = _ := e1
      rw [e] at e1; cases e1
      exact fields_notImm rfl rfl (by decide)
  | ref a =>
    replace h : (match σ a with | some (.list xs) => some xs | _ => none) = some vs := h
    cases hx : σ a with
    | none => rw [hx] at h; cases h
    | some o =>
    rw [hx] at h
    cases o with
    | list xs =>
      cases Option.some.inj h
      cases r
      obtain ⟨_, its, hp, r⟩ := S.inv.own _ _ hx
      have hli := hp.isList
      have e : vs.length = its.size := by have := r.length; simpa using this
      have hne : a ≠ s.heap.objs.size := by obtain ⟨o, ho, _⟩ := hli; exact Nat.ne_of_lt (Heap.lt_size ho)
      refine wpAny_pyIter_list hli (hQ _ [s.heap.objs.size, a] (fun i u => its[i]? = some u) _ fun A' hA => ⟨e ▸ Walks.list hA _ a hne its, ⟨⟨_, Heap.get?_push_size _ rfl, rfl, rfl⟩, hli.push _⟩, ?_, fun i u hi => relL_item r hi, ?_, fun i h ⟨⟨o, e, _⟩, _⟩ => ⟨o, e⟩, ?_⟩)
      · intro b hb
        rw [Heap.size_push]
        obtain ⟨o, ho, _⟩ := hli
        rcases List.mem_cons.mp hb with rfl | hb
        · exact Nat.lt_succ_self _
        · rw [List.mem_singleton.mp hb]; exact Nat.lt_succ_of_lt (Heap.lt_size ho)
      · rintro i h o ⟨⟨o', e1, e2, e3⟩, _⟩ e
        rw [e] at e1; cases e1
        exact fields_notImm e3 e2 (by decide)
      · intro b hb hn
        rcases List.mem_cons.mp hb with rfl | hb
        · exact absurd rfl hn
        · rw [List.mem_singleton.mp hb]
          obtain ⟨o, ho, _⟩ := hli
          exact ⟨o, ho, .inr ⟨_, rfl, hx⟩⟩
    | _ => cases h
  | _ => cases h
end
end
section
open PySem PySem.W PyProof.Rows PySem.Calls
noncomputable abbrev KontB (w : World) (B : Heap) (c : Cx) (env : Env) (lm : LM) (σ : Sg) (s : Shared) (k : Bool → Sg → Prop) (Q : Bool → Shared → Prop) : Prop :=
  ∀ b σ' h' tk, k b σ' → St w B c env lm σ' h' → Aft w B σ σ' env.locals [] s.heap h' → (∀ o, s.heap.get? env.locals = some o → h'.get? env.locals = some o) → Q b { s with heap := h', toks := tk }
noncomputable abbrev KontL (w : World) (B : Heap) (c : Cx) (env : Env) (lm : LM) (σ : Sg) (s : Shared) (k : List PV → Sg → Prop) (Q : List Value → Shared → Prop) : Prop :=
  ∀ ps vs σ' h' tk, k ps σ' → RelL B h' ps vs → St w B c env lm σ' h' → Aft w B σ σ' env.locals [] s.heap h' → (∀ o, s.heap.get? env.locals = some o → h'.get? env.locals = some o) → Q vs { s with heap := h', toks := tk }

noncomputable def SE (w : World) (B : Heap) (n : Nat) : Prop := ∀ c env lm σ k A E Q s e, Room A c.d → St w B c env lm σ s.heap → WE n c e lm σ k → Kont w B c env lm σ s k Q → wpAny (model pw w) A (eval e env) Q E s
noncomputable def ST (w : World) (B : Heap) (n : Nat) : Prop := ∀ c env lm σ k A E Q s e, Room A c.d → St w B c env lm σ s.heap → WT n c e lm σ k → KontB w B c env lm σ s k Q → wpAny (model pw w) A (isTrue e env (eval e env)) Q E s

section
variable {w : World} {B : Heap} {c : Cx} {env : Env} {lm : LM} {σ σ₁ : Sg} {A : Around} {E : Value → Shared → Prop} {s : Shared} {k : PV → Sg → Prop} {Q : Value → Shared → Prop} {h₁ : Heap} {tk : Nat}

theorem Kont.after (K : Kont w B c env lm σ s k Q) (x : Aft w B σ σ₁ env.locals [] s.heap h₁) (hL : ∀ o, s.heap.get? env.locals = some o → h₁.get? env.locals = some o) : Kont w B c env lm σ₁ { s with heap := h₁, toks := tk } k Q :=
  fun pv v σ' h' tk' hk r S x' hL' => K pv v σ' h' tk' hk r S (x.trans x') fun o e => hL' o (hL o e)
theorem KontB.after {k : Bool → Sg → Prop} {Q : Bool → Shared → Prop} (K : KontB w B c env lm σ s k Q) (x : Aft w B σ σ₁ env.locals [] s.heap h₁) (hL : ∀ o, s.heap.get? env.locals = some o → h₁.get? env.locals = some o) : KontB w B c env lm σ₁ { s with heap := h₁, toks := tk } k Q :=
  fun b σ' h' tk' hk S x' hL' => K b σ' h' tk' hk S (x.trans x') fun o e => hL' o (hL o e)
theorem KontL.after {k : List PV → Sg → Prop} {Q : List Value → Shared → Prop} (K : KontL w B c env lm σ s k Q) (x : Aft w B σ σ₁ env.locals [] s.heap h₁) (hL : ∀ o, s.heap.get? env.locals = some o → h₁.get? env.locals = some o) : KontL w B c env lm σ₁ { s with heap := h₁, toks := tk } k Q :=
  fun ps vs σ' h' tk' hk r S x' hL' => K ps vs σ' h' tk' hk r S (x.trans x') fun o e => hL' o (hL o e)
theorem KontS.afterE {k : LM → Sg → Prop} {Q : Shared → Prop} (K : KontS w B c env σ s k Q) (x : Aft w B σ σ₁ env.locals [] s.heap h₁) : KontS w B c env σ₁ { s with heap := h₁, toks := tk } k Q :=
  fun lm' σ' h' tk' hk S x' => K lm' σ' h' tk' hk S ((x.weaken fun _ h => nomatch h).trans x')
theorem KontS.after {k : LM → Sg → Prop} {Q : Shared → Prop} (K : KontS w B c env σ s k Q) (x : Aft w B σ σ₁ env.locals (env.cells.map (·.2)) s.heap h₁) : KontS w B c env σ₁ { s with heap := h₁, toks := tk } k Q :=
  fun lm' σ' h' tk' hk S x' => K lm' σ' h' tk' hk S (x.trans x')

/-- the cells that a comprehension is given -/
noncomputable def closL (cells : List (Str × Addr)) : List (Str × NameKind) → List (Str × Addr) → List (Str × Addr)
  | [], cs => cs
  | (n, k) :: r, cs => closL cells r (if k == .free then (n, (cells.lookup n).getD 0) :: cs else cs)
theorem clos_go (f : Str × NameKind → List (Str × Addr) → Sem (ForInStep (List (Str × Addr)))) : ∀ (names : List (Str × NameKind)) (cs : List (Str × Addr)),
    (∀ y ∈ names, ∀ cs, f y cs = pure (.yield (if y.2 == .free then (y.1, (env.cells.lookup y.1).getD 0) :: cs else cs))) → forIn names cs f = pure (closL env.cells names cs)
  | [], cs, _ => rfl
  | (n, k) :: r, cs, h => by
    rw [List.forIn_cons, h _ (.head _)]
    exact clos_go f r _ fun y hy => h y (.tail _ hy)
theorem closureFor_of {sc : Scope} (h : ∀ y ∈ sc.names, y.2 = .free → ∃ a, env.cells.lookup y.1 = some a) : closureFor sc env = pure (closL env.cells sc.names []) := by
  simp only [closureFor]
  rw [clos_go (env := env)]
  · rfl
  · rintro ⟨n, k⟩ hy cs
    dsimp only
    by_cases q : (k == NameKind.free) = true
    · obtain ⟨a, ha⟩ := h _ hy (beq_iff_eq.mp q)
      simp only [q, if_true, cellOf, ha]
      rfl
    · simp only [q, if_false, Bool.false_eq_true]
theorem closL_mem {cells : List (Str × Addr)} {y : Str} {a : Addr} : ∀ (names : List (Str × NameKind)) (cs : List (Str × Addr)), (y, a) ∈ closL cells names cs → (y, a) ∈ cs ∨ ((y, NameKind.free) ∈ names ∧ a = (cells.lookup y).getD 0)
  | [], cs, h => .inl h
  | (n, k) :: r, cs, h => by
    rcases closL_mem r _ h with h | ⟨h, e⟩
    · split at h
      · rename_i q
        rcases List.mem_cons.mp h with h | h
        · cases h; exact .inr ⟨by rw [← beq_iff_eq.mp q]; exact .head _, rfl⟩
        · exact .inl h
      · exact .inl h
    · exact .inr ⟨.tail _ h, e⟩
theorem closL_has {cells : List (Str × Addr)} {y : Str} : ∀ (names : List (Str × NameKind)) (cs : List (Str × Addr)), ((y, NameKind.free) ∈ names ∨ y ∈ cs.map (·.1)) → y ∈ (closL cells names cs).map (·.1)
  | [], cs, h => h.elim (fun h => nomatch h) id
  | (n, k) :: r, cs, h => by
    refine closL_has r _ ?_
    rcases h with h | h
    · rcases List.mem_cons.mp h with h | h
      · cases h; exact .inr (by simp)
      · exact .inl h
    · refine .inr ?_
      split
      · exact .tail _ h
      · exact h
theorem lookup_some_of {y : Str} : ∀ {l : List (Str × Addr)}, y ∈ l.map (·.1) → ∃ a, l.lookup y = some a
  | (n, a) :: r, h => by
    rw [List.lookup_cons]
    cases q : y == n with
    | true => exact ⟨a, rfl⟩
    | false =>
      refine lookup_some_of (l := r) ?_
      rcases List.mem_cons.mp h with h | h
      · rw [show y = n from h] at q; simp at q
      · exact h
theorem lookup_map_kind {names : List (Str × NameKind)} {x : Str} (g : Str → NameKind → NameKind) : (names.map fun (n, k) => (n, g n k)).lookup x = (names.lookup x).map (g x) := by
  induction names with
  | nil => rfl
  | cons a r ih =>
    obtain ⟨n, k⟩ := a
    simp only [List.map_cons, List.lookup_cons]
    cases q : x == n with
    | true => simp [beq_iff_eq.mp q]
    | false => exact ih
theorem kind_comp {sc : Scope} {cl : List (Str × Addr)} {C : Addr} (x : Str) : (compEnvC sc cl C env).kindOf x = (sc.names.lookup x).map fun k => if (k == NameKind.free && env.scope.kind == .function && env.kindOf x == some .cell) = true then .cell else k := by
  show List.lookup x (sc.names.map _) = _
  rw [← lookup_map_kind (fun n k => if (k == NameKind.free && env.scope.kind == .function && env.kindOf n == some .cell) = true then .cell else k)]
  congr 1
  refine List.map_congr_left fun y _ => ?_
  obtain ⟨n, k⟩ := y
  dsimp only
  split <;> rfl

noncomputable abbrev cCx (sc : Scope) (c : Cx) : Cx := ⟨fun y => sc.names.lookup y, c.d⟩
noncomputable abbrev cLm (sc : Scope) (lm : LM) (x : Str) (v : PV) : LM := upd (fun y => if sc.names.lookup y = some .free then lm y else none) x v
structure OkLc (c : Cx) (sc : Scope) (x : Str) : Prop where
  cell : ∀ y ∈ sc.names, y.2 ≠ .cell
  loc : ∀ y ∈ sc.names, y.2 = .local → sc.names.lookup y.1 = some .local
  free : ∀ y ∈ sc.names, y.2 = .free → c.kind y.1 = some .cell
  kind : sc.kind = .function
  x : sc.names.lookup x = some .local
  d : sc.names.lookup (Str.ofString "__debug__") = none
  e : sc.names.lookup (Str.ofString "__classdict__") = none
theorem okLc_of {kind : Str → Option NameKind} {sc : Scope} {x : Str} (h : okLc kind sc x = true) {d : Nat} : OkLc ⟨kind, d⟩ sc x := by
  unfold okLc at h
  simp only [Bool.and_eq_true, List.all_eq_true, beq_iff_eq] at h
  obtain ⟨⟨⟨⟨h1, h2⟩, h3⟩, h4⟩, h5⟩ := h
  refine ⟨fun y hy => ?_, fun y hy e => ?_, fun y hy e => ?_, h2, h3, h4, h5⟩
  · have := (h1 y hy).1.1; simpa using this
  · have := (h1 y hy).1.2; simpa [e] using this
  · have := (h1 y hy).2; simpa [e] using this

theorem cst {sc : Scope} {x : Str} {C : Addr} {pv : PV} {v : Value} {h₂ h₃ : Heap} {m₃ : Str → Option Value} (O : OkLc c sc x) (S : St w B c env lm σ s.heap) (kk : ∀ b o, s.heap.get? b = some o → h₃.get? b = some o)
    (hC : s.heap.objs.size ≤ C) (hn : h₃.Ns C m₃) (hx : m₃ x = some v) (hr : Rel B h₃ pv v) : St w B (cCx sc c) (compEnvC sc (closL env.cells sc.names []) C env) (cLm sc lm x pv) noSg h₃ := by
  have hcl : ∀ y a, (closL env.cells sc.names []).lookup y = some a → env.cells.lookup y = some a := fun y a e => by
    rcases closL_mem _ _ (lookup_mem e) with h | ⟨h, e'⟩
    · cases h
    · obtain ⟨b, hb⟩ := S.eo.cel y (O.free _ h rfl)
      rw [hb] at e'; rw [hb, e']; rfl
  refine ⟨⟨?_, S.eo.g, S.eo.b, fun y kd e q => ?_, fun y e => ?_, fun y z a e1 e2 => S.eo.apart y z a (hcl _ _ e1) (hcl _ _ e2), fun p hp => ?_, ?_, ?_⟩, ⟨fun b o e => kk b o (S.inv.base b o e), fun a o e => nomatch e⟩, ⟨m₃, hn, fun y u e => ?_⟩, rfl, Nat.le_trans S.leB hC, fun y a e => S.ok.cb y a (hcl _ _ e), fun y a e => ?_⟩
  · exact O.kind
  · rw [kind_comp, show sc.names.lookup y = some kd from e]
    have : (kd == NameKind.free) = false := beq_eq_false_iff_ne.mpr q
    simp only [Option.map_some, this, Bool.false_and, Bool.false_eq_true, if_false]
  · exact absurd rfl (O.cell _ (lookup_mem (show sc.names.lookup y = some .cell from e)))
  · obtain ⟨a, ha⟩ := lookup_some_of (List.mem_map_of_mem (f := (·.1)) hp)
    rcases closL_mem sc.names [] (show (p.1, p.2) ∈ _ from hp) with h | ⟨_, e1⟩
    · cases h
    rcases closL_mem sc.names [] (lookup_mem ha) with h | ⟨_, e2⟩
    · cases h
    exact ha.trans (by rw [e1, e2])
  · rw [kind_comp, O.d]; rfl
  · rw [kind_comp, O.e]; rfl
  · unfold cLm upd at e
    by_cases q : y = x
    · rw [if_pos q] at e; cases e
      refine .inl ⟨?_, v, q ▸ hx, hr⟩
      rw [kind_comp, q, O.x]; rfl
    · rw [if_neg q] at e
      dsimp only at e
      split at e
      · rename_i hf
        have hmem := lookup_mem hf
        have hcell := O.free _ hmem rfl
        obtain ⟨m, hn0, hr0⟩ := S.fr
        have hk : env.kindOf y = some .cell := S.eo.k y _ hcell nofun
        rcases hr0 y u e with ⟨h1, _⟩ | ⟨_, cc, z, h2, h3, h4⟩
        · rw [hk] at h1; cases h1
        · refine .inr ⟨.inl ?_, cc, z, ?_, let ⟨o, o1, o2⟩ := h3; ⟨o, kk _ _ o1, o2⟩, h4.mono fun b o _ e => kk b o e⟩
          · rw [kind_comp, hf, Option.map_some, S.eo.fn, hk]; rfl
          · obtain ⟨a, ha⟩ := lookup_some_of (closL_has (cells := env.cells) sc.names [] (.inl hmem))
            have := hcl _ _ ha
            show (closL env.cells sc.names []).lookup y = some cc
            rw [ha, ← this, h2]
      · cases e
  · obtain ⟨c1, c2, v', o, c3, c4⟩ := S.ok.cell y a (hcl _ _ e)
    exact ⟨rfl, Nat.ne_of_lt (Nat.lt_of_lt_of_le (Heap.lt_size c3) hC), v', o, kk _ _ c3, c4⟩

noncomputable def pvOf : Value → PV
  | .str s _ => .str s
  | .int i _ => .int i
  | _ => .none
theorem pvOf_rel {h : Heap} {p : PV} {v : Value} (r : Rel B h p v) (e : isSI p = true) : pvOf v = p := by
  cases r <;> first | rfl | cases e
noncomputable def SIRel (p : PV) (v : Value) : Prop := isSI p = true ∧ pvOf v = p
theorem SIRel.of {h : Heap} {p : PV} {v : Value} (r : Rel B h p v) (e : isSI p = true) : SIRel p v := ⟨e, pvOf_rel r e⟩
theorem SIRel.rel {h : Heap} {p : PV} {v : Value} (r : SIRel p v) : Rel B h p v := by
  obtain ⟨e, rfl⟩ := r
  cases v <;> first | exact .str _ _ | exact .int _ _ | cases e

theorem keeps_of {C : Addr} {cenv : Env} {s₃ : Shared} {h' : Heap} {σ' : Sg} {tk : Nat} (x : Aft w B noSg σ' cenv.locals [] s₃.heap h') (hL : ∀ o, s₃.heap.get? cenv.locals = some o → h'.get? cenv.locals = some o) : Keeps s₃ { s₃ with heap := h', toks := tk } :=
  ⟨h', tk, rfl, fun b o e => by
    by_cases q : b = cenv.locals
    · subst q; exact hL o e
    · exact x.keep b o e (.inr ⟨q, nofun, rfl⟩)⟩

theorem squiet {n : Nat} {sc : Scope} {x : Str} {elt : Expr} {ifs : List Expr} {iv : PV} {vs : List PV} {p : PV → Bool} {f : PV → PV} {o : Obj} {fp : List Addr} {P : Nat → Value → Prop} {G : Nat → Heap → Prop}
    (hE : SE w B n) (hT : ∀ n' c env lm σ k A E Q s ifs, n' = n → Room A c.d → St w B c env lm σ s.heap → WTs n' c ifs lm σ k → KontB w B c env lm σ s k Q →
      wpAny (model pw w) A (forIn ifs true fun e r => if r = true then do let ok ← isTrue e env (eval e env); pure (ForInStep.yield ok) else pure (ForInStep.yield r)) Q E s)
    (R : Room A c.d) (O : OkLc c sc x) (S : St w B c env lm σ s.heap) (hsi : vs.all isSI = true)
    (h1 : ∀ v ∈ vs, WTs n (cCx sc c) ifs (cLm sc lm x v) noSg fun b _ => b = p v) (h2 : ∀ v ∈ vs, p v = true → WE n (cCx sc c) elt (cLm sc lm x v) noSg fun u _ => u = f v ∧ isSI u = true)
    (I : Iter w A s.heap.objs.size fp vs B s.heap (s.heap.push o) iv σ P G) {s₂ : Shared} (hs₂ : s₂.heap = s.heap.push o) :
    QuietOnC pw w A env sc (closL env.cells sc.names []) x ifs elt [s.heap.objs.size] P (fun v => p (pvOf v)) (fun v y => SIRel (f (pvOf v)) y) s₂ := by
  have key : ∀ (C : Addr) i v (s₃ : Shared) m₃, s₂.heap.objs.size ≤ C → P i v → s₃.heap.Ns C m₃ → m₃ x = some v → (∀ b ob, b ∉ [s.heap.objs.size] → s₂.heap.get? b = some ob → s₃.heap.get? b = some ob) →
      ∃ pv ∈ vs, pvOf v = pv ∧ St w B (cCx sc c) (compEnvC sc (closL env.cells sc.names []) C env) (cLm sc lm x pv) noSg s₃.heap := by
    intro C i v s₃ m₃ hC hv hn hx hk
    obtain ⟨pv, e1, e2⟩ := I.item i v hv
    have hm := List.mem_of_getElem? e1
    have kk : ∀ b ob, s.heap.get? b = some ob → s₃.heap.get? b = some ob := fun b ob e => hk b ob (by
      rw [List.mem_singleton]; exact Nat.ne_of_lt (Heap.lt_size e)) (by rw [hs₂]; exact Heap.get?_push_of_some _ e)
    have hr := e2 s₃.heap fun b o _ e => kk b o e
    refine ⟨pv, hm, pvOf_rel hr (List.all_eq_true.mp hsi _ hm), cst (h₂ := s₂.heap) O S kk ?_ hn hx hr⟩
    rw [hs₂, Heap.size_push] at hC
    exact Nat.le_of_succ_le hC
  refine ⟨fun C i v s₃ m₃ E' hC hv hn hx hk _ => ?_, fun C i v s₃ m₃ E' hC hv hp hn hx hk _ => ?_⟩
  · obtain ⟨pv, hm, rfl, S'⟩ := key C i v s₃ m₃ hC hv hn hx hk
    refine hT n (cCx sc c) _ _ _ _ A E' _ s₃ ifs rfl R S' (h1 _ hm) fun b σ' h' tk hb _ x hL => ⟨hb, keeps_of (C := C) x hL⟩
  · obtain ⟨pv, hm, rfl, S'⟩ := key C i v s₃ m₃ hC hv hn hx hk
    refine hE (cCx sc c) _ _ _ _ A E' _ s₃ elt R S' (h2 _ hm hp) fun u v' σ' h' tk hb r _ x hL => ⟨?_, keeps_of (C := C) x hL⟩
    rw [← hb.1]; exact .of r hb.2

theorem comp_rel {h : Heap} {p : PV → Bool} {f : PV → PV} : ∀ {vs : List Value} {ys : List Value}, Paired (fun v y => SIRel (f (pvOf v)) y) (vs.filter fun v => p (pvOf v)) ys → RelL B h (((vs.map pvOf).filter p).map f) ys
  | [], ys, hp => by cases hp; exact .nil
  | v :: vs, ys, hp => by
    simp only [List.map_cons, List.filter_cons] at hp ⊢
    split at hp
    · rename_i q
      rw [if_pos q]
      cases hp with
      | cons a b => exact .cons a.rel (comp_rel b)
    · rename_i q
      rw [if_neg q]
      exact comp_rel hp
theorem pvs_eq {h : Heap} {vs : List PV} {us : List Value} {P : Nat → Value → Prop} (hl : us.length = vs.length) (hsi : vs.all isSI = true) (hP : ∀ j v, us[j]? = some v → P j v)
    (hi : ∀ i u, P i u → ∃ p, vs[i]? = some p ∧ Rel B h p u) : vs = us.map pvOf := by
  refine List.ext_getElem? fun i => ?_
  rw [List.getElem?_map]
  cases e : us[i]? with
  | none => rw [List.getElem?_eq_none]; rfl; rw [← hl]; exact List.getElem?_eq_none_iff.mp e
  | some u =>
    obtain ⟨p, h1, h2⟩ := hi i u (hP i u e)
    rw [h1, Option.map_some, pvOf_rel h2 (List.all_eq_true.mp hsi _ (List.mem_of_getElem? h1))]

noncomputable def STs (w : World) (B : Heap) (n : Nat) : Prop := ∀ c env lm σ k A E Q s ifs, Room A c.d → St w B c env lm σ s.heap → WTs n c ifs lm σ k → KontB w B c env lm σ s k Q →
  wpAny (model pw w) A (forIn ifs true fun e r => if r = true then do let ok ← isTrue e env (eval e env); pure (ForInStep.yield ok) else pure (ForInStep.yield r)) Q E s

/-- a comprehension, its source at hand -/
theorem scomp {n : Nat} {sc : Scope} {x : Str} {elt : Expr} {ifs : List Expr} {iv : PV} {v : Value} {p : PV → Bool} {f : PV → PV}
    (hE : SE w B n) (hT : STs w B n)
    (Rm : Room A c.d) (O : OkLc c sc x) (S : St w B c env lm σ s.heap) (h : WLc (n + 1) c elt x ifs sc lm iv p f σ k) (r : Rel B s.heap iv v) {Q : Value → Shared → Prop}
    (hQ : ∀ (s₂ : Shared) fp N P G, Walks pw w A s.heap.objs.size fp [s.heap.objs.size] N P G → N ≤ sizeLine → G 0 s₂.heap → (∀ b ∈ fp, b < s₂.heap.objs.size) →
      QuietOnC pw w A env sc (closL env.cells sc.names []) x ifs elt [s.heap.objs.size] P (fun v => p (pvOf v)) (fun v y => SIRel (f (pvOf v)) y) s₂ →
      (∃ o, s₂ = { s with heap := s.heap.push o }) →
      (∀ (D : Addr) (h' : Heap) (ys : Array Value) (us : List Value), h'.PlainList D ys → us.length = N → (∀ j v, us[j]? = some v → P j v) → Paired (fun v y => SIRel (f (pvOf v)) y) (us.filter fun v => p (pvOf v)) ys.toList → (∀ b o, Imm o → s.heap.get? b = some o → h'.get? b = some o) →
        ∃ ao, ORel w B h' D ao ∧ isD ao = false ∧ ∀ a, σ a = none → k (.ref a) (sset σ a ao)) → Q (.ref s.heap.objs.size) s₂) :
    wpAny (model pw w) A (pyIter v) Q E s := by
  obtain ⟨vs, h1, h2, h3, h4, h5, h6⟩ := h
  refine siter h1 h2 S r fun o fp P G hI => ?_
  have I := hI A Rm.handled
  have q := squiet (s₂ := { s with heap := s.heap.push o }) hE (fun n' c env lm σ k A E Q s ifs e => e ▸ hT c env lm σ k A E Q s ifs) Rm O S h3 h4 h5 I rfl
  refine hQ { s with heap := s.heap.push o } fp vs.length P G I.walks (by rw [sizeLine_eq]; omega) I.zero I.low q ⟨o, rfl⟩ fun D h' ys us hpl hlen hP hF hk => ?_
  refine ⟨.list ((vs.filter p).map f), ⟨_, hpl, ?_⟩, rfl, h6⟩
  have e := pvs_eq (B := B) (h := h') hlen h3 hP fun i u hu => let ⟨pv, e1, e2⟩ := I.item i u hu; ⟨pv, e1, e2 h' hk⟩
  rw [e]
  exact comp_rel hF

theorem scompE {n : Nat} {sc : Scope} {x : Str} {px pos : Pos} {elt iter : Expr} {ifs : List Expr} {p : PV → Bool} {f : PV → PV} (hE : SE w B n) (hE' : SE w B (n + 1)) (hT : STs w B n)
    (Rm : Room A c.d) (hok : isSetD iter = false ∧ okLc c.kind sc x = true) (S : St w B c env lm σ s.heap) (h : WE (n + 1) c iter lm σ fun iv σ₁ => WLc (n + 1) c elt x ifs sc lm iv p f σ₁ k) (K : Kont w B c env lm σ s k Q) :
    wpAny (model pw w) A (eval (.ListComp elt [⟨.Name x px, iter, ifs, 0⟩] sc pos) env) Q E s := by
  have O : OkLc c sc x := okLc_of (d := c.d) hok.2
  have hs : ∀ z, foldedSetIterable iter env z = pure z := by
    intro z; cases iter <;> first | rfl | cases hok.1
  have hfr : ∀ y ∈ sc.names, y.2 = .free → ∃ a, env.cells.lookup y.1 = some a := fun y hy e => S.eo.cel _ (O.free y hy e)
  refine wpAny_ListComp_free (fun v => p (pvOf v)) (fun v y => SIRel (f (pvOf v)) y) (closureFor_of hfr) O.cell O.kind O.loc O.x ?_ hs
  refine hE' c env lm σ _ A E _ s iter Rm S h fun iv v σ₁ h₁ tk₁ hk r S₁ x₁ hL₁ => ?_
  refine scomp (s := { s with heap := h₁, toks := tk₁ }) hE hT Rm O S₁ hk r fun s₂ fp N P G W hN hG hlow hq hs₂ hD => ?_
  obtain ⟨o, rfl⟩ := hs₂
  refine ⟨_, fp, _, N, P, G, rfl, W, hN, hG, hlow, hq, fun D h' tk ys us hD' hli hpl hlen hP hF hkeep => ?_⟩
  have kk : ∀ b ob, h₁.get? b = some ob → h'.get? b = some ob := fun b ob e => hkeep b ob (by rw [List.mem_singleton]; exact Nat.ne_of_lt (Heap.lt_size e)) (Heap.get?_push_of_some _ e)
  obtain ⟨ao, hr, hd, hkk⟩ := hD D h' ys us hpl hlen hP hF fun b o _ e => kk b o e
  have hDn : h₁.get? D = none := by
    cases q : h₁.get? D with
    | none => rfl
    | some ob => rw [Heap.get?_push_of_some _ q] at hD'; cases hD'
  have X := Aft.alloc (L := env.locals) (cl := []) S₁.inv kk hDn (ao := ao) (fun q => by rw [hd] at q; cases q) hr
  exact K (.ref D) (.ref D) _ h' tk (hkk D (S₁.inv.none_at hDn)) (.ref D) (S₁.stepX X fun o e => kk _ o e) (x₁.trans X) fun o e => kk _ _ (hL₁ o e)

theorem scompS {n : Nat} {sc : Scope} {x y : Str} {px py pos spos : Pos} {elt iter : Expr} {ifs : List Expr} {p : PV → Bool} {f : PV → PV} {k : LM → Sg → Prop} {Q : Flow → Shared → Prop} (hE : SE w B n) (hE' : SE w B (n + 1)) (hT : STs w B n)
    (Rm : Room A c.d) (hok : isSetD iter = false ∧ okLc c.kind sc x = true) (hy : c.kind y = some .local) (hsw : (py.line == pos.line && !(sc.names.any fun z => z.1 == y && (z.2 == .local || z.2 == .cell))) = true)
    (S : St w B c env lm σ s.heap) (h : WE (n + 1) c iter lm σ fun iv σ₁ => WLc (n + 1) c elt x ifs sc lm iv p f σ₁ fun v σ₂ => k (upd lm y v) σ₂) (K : KontS w B c env σ s k (Q .next)) :
    wpAny (model pw w) A (exec (.Assign [.Name y py] (.ListComp elt [⟨.Name x px, iter, ifs, 0⟩] sc pos) spos) env) Q E s := by
  have O : OkLc c sc x := okLc_of (d := c.d) hok.2
  have hs : ∀ z, foldedSetIterable iter env z = pure z := by
    intro z; cases iter <;> first | rfl | cases hok.1
  have hfr : ∀ y ∈ sc.names, y.2 = .free → ∃ a, env.cells.lookup y.1 = some a := fun y hy e => S.eo.cel _ (O.free y hy e)
  have hky := S.eo.k y _ hy nofun
  have hsw' : swapsWith (.ListComp elt [⟨.Name x px, iter, ifs, 0⟩] sc pos) (some (.Name y py)) spos.line env = pure true := by
    simp only [swapsWith, Env.blockKind, S.eo.fn, hky]
    rw [show (Expr.ListComp elt [⟨.Name x px, iter, ifs, 0⟩] sc pos).pos = pos from rfl]
    have h1 : (py.line == pos.line) = true := (Bool.and_eq_true_iff.mp hsw).1
    have h2 := (Bool.and_eq_true_iff.mp hsw).2
    show (pure (_ && _ && _ && !(sc.names.any fun z => z.1 == y && (z.2 == .local || z.2 == .cell))) : Sem Bool) = pure true
    rw [h2, h1]
    rfl
  refine wpAny_Assign_ListComp_free (fun v => p (pvOf v)) (fun v y => SIRel (f (pvOf v)) y) hsw' (closureFor_of hfr) O.cell O.kind O.loc O.x hky (by rw [S.eo.fn]; rfl) ?_ hs
  refine hE' c env lm σ _ A E _ s iter Rm S h fun iv v σ₁ h₁ tk₁ hk r S₁ x₁ hL₁ => ?_
  refine scomp (s := { s with heap := h₁, toks := tk₁ }) hE hT Rm O S₁ hk r fun s₂ fp N P G W hN hG hlow hq hs₂ hD => ?_
  obtain ⟨o, rfl⟩ := hs₂
  obtain ⟨m, hn, hr⟩ := S₁.fr
  have hLlt : env.locals < h₁.objs.size := hn.lt
  refine ⟨_, fp, _, N, P, G, m, rfl, W, hN, hG, hlow, by rw [List.mem_singleton]; exact Nat.ne_of_lt hLlt, hn.push _, hq, fun D h' tk ys us hD' hli hpl hlen hP hF hn' hkeep => ?_⟩
  have kk : ∀ b ob, b ≠ env.locals → h₁.get? b = some ob → h'.get? b = some ob := fun b ob hb e => hkeep b ob hb (by rw [List.mem_singleton]; exact Nat.ne_of_lt (Heap.lt_size e)) (Heap.get?_push_of_some _ e)
  have ki : ∀ b ob, Imm ob → h₁.get? b = some ob → h'.get? b = some ob := fun b ob i e => kk b ob (fun q => S₁.fr.notImm ob (q ▸ e) i) e
  obtain ⟨ao, hr', hd, hkk⟩ := hD D h' ys us hpl hlen hP hF ki
  have hDn : h₁.get? D = none := by
    cases q : h₁.get? D with
    | none => rfl
    | some ob => rw [Heap.get?_push_of_some _ q] at hD'; cases hD'
  have hDL : D ≠ env.locals := by
    rintro rfl
    obtain ⟨o, _, _, e, _⟩ := hn
    rw [hDn] at e; cases e
  have hσD : σ₁ D = none := S₁.inv.none_at hDn
  have hnB : ∀ b o, B.get? b = some o → b ≠ env.locals := fun b o e q => absurd (Heap.lt_size e) (Nat.not_lt.mpr (q ▸ S.ok.lb))
  have X : Aft w B σ₁ (sset σ₁ D ao) env.locals (env.cells.map (·.2)) h₁ h' := by
    refine ⟨⟨fun b o e => kk b o (hnB b o e) (S₁.inv.base b o e), fun b ob e => ?_⟩, fun b ob e cc => ?_, fun b ob e => ?_, fun b q => ?_⟩
    · unfold sset at e
      split at e
      · rename_i hb; cases e; subst hb; exact ⟨⟨S₁.inv.new hDn, fun q => by rw [hd] at q; cases q⟩, hr'⟩
      · have := S₁.inv.own b ob e
        refine ⟨this.1, ORel.mono ki (fun ob' e' => kk b ob' (fun q => ?_) e') this.2⟩
        have := S₁.ok.l; rw [← q, e] at this; cases this
    · rcases cc with cc | ⟨c1, _, _⟩
      · exact ki b ob cc e
      · exact kk b ob c1 e
    · by_cases q : b = env.locals
      · obtain ⟨o', _, _, e', _⟩ := hn'; exact ⟨o', q ▸ e'⟩
      · exact ⟨ob, kk b ob q e⟩
    · unfold sset at q
      split at q
      · rename_i hb; exact .inr (hb ▸ hDn)
      · exact .inl q
  refine K (upd lm y (.ref D)) _ h' tk (hkk D hσD) ⟨S.eo, X.inv, ⟨_, hn', fun z u e => ?_⟩, ?_, S.ok.lb, S.ok.cb, fun z a e => ?_⟩ ((x₁.weaken fun _ h => nomatch h).trans X)
  · unfold upd at e
    by_cases q : z = y
    · rw [if_pos q] at e; cases e
      exact .inl ⟨q ▸ hky, .ref D, by rw [if_pos q], .ref D⟩
    · rw [if_neg q] at e
      refine (hr z u e).imp (fun ⟨a, v', b, d⟩ => ⟨a, v', by rw [if_neg q]; exact b, d.mono X.imm⟩) fun ⟨a, cc, v', b, ⟨o, o1, o2⟩, d⟩ => ⟨a, cc, v', b, ⟨o, kk _ _ (S₁.ok.cell z cc b).2.1 o1, o2⟩, d.mono X.imm⟩
  · unfold sset
    rw [if_neg (fun q => hDL q.symm)]; exact S₁.ok.l
  · obtain ⟨c1, c2, v', o, c3, c4⟩ := S₁.ok.cell z a e
    refine ⟨?_, c2, v', o, kk _ _ c2 c3, c4⟩
    unfold sset
    rw [if_neg (fun q => by rw [q, hDn] at c3; cases c3)]; exact c1
end
end
section
open PySem PySem.W PyProof.Rows PySem.Calls
noncomputable def dfltV : PV → Value
  | .bool b => .bool b
  | .int i => .int i 562
  | _ => .none
noncomputable def bindV (f : Fn) (us : List Value) : List (Str × Value) := f.params.zip (us ++ (f.dfltPV.drop (us.length + f.dfltPV.length - f.params.length)).map dfltV)

noncomputable def codeOk (K : Frag) (f : Fn) : Bool := match K.lookup f.code with
  | some ⟨_, _, .fields vs, _⟩ => (match vs[1]? with
    | some (Value.str q _) => q == f.qual
    | _ => false)
  | _ => false
noncomputable def scopeOk (f : Fn) : Bool := !(scopeOf f.st).isCoroutine && !(scopeOf f.st).isGenerator && (scopeOf f.st).kind == .function && f.params.all (fun x => f.kind x == some .local) &&
  (scopeOf f.st).names.lookup (Str.ofString "__debug__") == none && (scopeOf f.st).names.lookup (Str.ofString "__classdict__") == none && f.dfltPV.all (fun v => match v with | .bool _ => true | .int _ => true | _ => false) && decide (f.dfltPV.length ≤ f.params.length) && decide ((cellsFrom 0 (scopeOf f.st).names []).map (·.1)).Nodup
theorem codes_ok (P : Params) : (fnTab.all fun x => codeOk (KK P) x.2) = true := by kernel_rfl
theorem scopes_ok : (fnTab.all fun x => scopeOk x.2) = true := by kernel_rfl
theorem keeps_ok (P : Params) : (fnTab.all fun x => keepIn (KK P) (.ref x.1)) = true := by kernel_rfl
theorem inits_ok (P : Params) : ([(258, 185), (413, 291)].all fun (x : Addr × Addr) => keepIn (KK P) (.ref x.1) && makesIn (KK P) x.1 && findIn (KK P) (.ref x.1) "__init__" == some (some (.ref x.2)) && typeIn (KK P) (.ref x.2) == some (.type "function")) = true := by kernel_rfl
theorem bind_ok (P : Params) (S : Setting) : ∀ x ∈ fnTab, ∀ us : List Value, x.2.params.length ≤ us.length + x.2.dfltPV.length → us.length ≤ x.2.params.length → peek (KK P) S (bindArgs x.2.data ⟨us, []⟩) = some (bindV x.2 us) := by
  unfold fnTab
  repeat' (first | refine List.forall_mem_cons.mpr ⟨?_, ?_⟩ | exact fun _ h => (List.not_mem_nil h).elim)
  all_goals
    intro us h1 h2
    rcases us with _ | ⟨a, _ | ⟨b, _ | ⟨c, _ | ⟨d, us⟩⟩⟩⟩
    all_goals first
      | exact absurd (show _ ≤ 0 + _ from h1) (by decide +kernel)
      | exact absurd (show _ ≤ 1 + _ from h1) (by decide +kernel)
      | exact absurd (show _ ≤ 2 + _ from h1) (by decide +kernel)
      | exact absurd (show _ ≤ 3 + _ from h1) (by decide +kernel)
      | exact absurd (show 1 ≤ _ from h2) (by decide +kernel)
      | exact absurd (show 2 ≤ _ from h2) (by decide +kernel)
      | exact absurd (show 3 ≤ _ from h2) (by decide +kernel)
      | exact absurd (Nat.le_trans (Nat.le_add_left 4 _) h2) (by decide +kernel)
      | kernel_rfl
theorem obj_ok (P : Params) : ∀ x ∈ fnTab, (KK P).lookup x.1 = some x.2.obj := by
  unfold fnTab
  repeat' (first | refine List.forall_mem_cons.mpr ⟨?_, ?_⟩ | exact fun _ h => (List.not_mem_nil h).elim)
  all_goals kernel_rfl

inductive FlRel (B h : Heap) : Fl → Flow → Prop
  | next : FlRel B h .next .next
  | cont : FlRel B h .cont .cont
  | brk : FlRel B h .brk .brk
  | ret {p : PV} {v : Value} : Rel B h p v → FlRel B h (.ret p) (.ret v)
noncomputable abbrev KontF (w : World) (B : Heap) (c : Cx) (env : Env) (σ : Sg) (s : Shared) (k : Fl → LM → Sg → Prop) (Q : Flow → Shared → Prop) : Prop :=
  ∀ fl v lm' σ' h' tk, k fl lm' σ' → FlRel B h' fl v → St w B c env lm' σ' h' → Aft w B σ σ' env.locals (env.cells.map (·.2)) s.heap h' → Q v { s with heap := h', toks := tk }
noncomputable def SSS (w : World) (B : Heap) (n : Nat) : Prop := ∀ c env lm σ k A E Q s body, Room A c.d → St w B c env lm σ s.heap → WSS n c body lm σ k → KontF w B c env σ s k Q → wpAny (model pw w) A (execs body env) Q E s
structure RoomC (A : Around) (d : Nat) : Prop where
  handled : A.handled = none
  depth : A.depth + 4 * d + 2 ≤ 1000
  units : A.units + 20 * d + 190 ≤ 9900
noncomputable abbrev KontC (w : World) (B : Heap) (σ : Sg) (s : Shared) (k : PV → Sg → Prop) (Q : Value → Shared → Prop) : Prop :=
  ∀ pv v σ' h' tk, k pv σ' → Rel B h' pv v → (∀ L cl, Aft w B σ σ' L cl s.heap h') → Q v { s with heap := h', toks := tk }
noncomputable def SCf (w : World) (B : Heap) (n : Nat) : Prop := ∀ c A R s a vs us σ k, RoomC A c.d → Inv w B σ s.heap → B.objs.size ≤ s.heap.objs.size → RelL B s.heap vs us → WCf n c a vs σ k →
  KontC w B σ s k (fun v s' => R (.ok (.ret v)) s') → codeAny (model pw w) A (.call (.ref a) ⟨us, []⟩) R s

section
variable {w : World} {B : Heap}
theorem bind_local {h : Heap} {kind : Str → Option NameKind} : ∀ {ps : List Str} {vs : List PV} {us : List Value} {lm : LM} {m : Str → Option Value}, (∀ x ∈ ps, kind x = some .local) → RelL B h vs us →
    (∀ x v, lm x = some v → kind x = some .local ∧ ∃ u, m x = some u ∧ Rel B h v u) →
    ∀ x v, ((ps.zip vs).foldl (fun lm p => upd lm p.1 p.2) lm) x = some v → kind x = some .local ∧ ∃ u, PySem.bindL kind (ps.zip us) m x = some u ∧ Rel B h v u
  | [], _, _, _, _, _, _, h => h
  | _ :: _, [], _, _, _, _, .nil, h => h
  | p :: ps, v :: vs, u :: us, lm, m, hk, .cons a r, h => by
    simp only [List.zip_cons_cons, List.foldl_cons, PySem.bindL]
    rw [if_pos (hk p (.head _))]
    refine bind_local (fun x hx => hk x (.tail _ hx)) r fun x v' e => ?_
    unfold upd at e
    by_cases q : x = p
    · rw [if_pos q] at e; cases e
      exact ⟨q ▸ hk p (.head _), u, by rw [if_pos q], a⟩
    · rw [if_neg q] at e
      rw [if_neg q]; exact h x v' e
theorem relL_dflt {h : Heap} : ∀ {ps : List PV}, (ps.all fun v => match v with | .bool _ => true | .int _ => true | _ => false) = true → RelL B h ps (ps.map dfltV)
  | [], _ => .nil
  | p :: ps, e => by
    rw [List.all_cons, Bool.and_eq_true] at e
    refine .cons ?_ (relL_dflt e.2)
    have := e.1
    split at this
    · exact .bool _
    · exact .int _ _
    · cases this
theorem all_drop {α : Type} {p : α → Bool} {l : List α} (n : Nat) (h : l.all p = true) : (l.drop n).all p = true := by
  rw [List.all_eq_true] at h ⊢
  exact fun x hx => h x (List.mem_of_mem_drop hx)

theorem apart_inj {y z : Str} {b : Addr} : ∀ {l : List (Str × Addr)}, (l.Pairwise fun x y => x.2 ≠ y.2) → (y, b) ∈ l → (z, b) ∈ l → y = z
  | a :: r, h, m1, m2 => by
    rw [List.pairwise_cons] at h
    rcases List.mem_cons.mp m1 with m1 | m1 <;> rcases List.mem_cons.mp m2 with m2 | m2
    · rw [← m2] at m1; exact (Prod.mk.inj m1).1
    · exact absurd (by rw [← m1]) (h.1 _ m2)
    · exact absurd (by rw [← m2]) (h.1 _ m1)
    · exact apart_inj h.2 m1 m2

theorem wcf_inv {n : Nat} {c : Cx} {a : Addr} {vs : List PV} {σ : Sg} {Q : PV → Sg → Prop} (h : WCf (n + 1) c a vs σ Q) : ∃ f d lm, fnAt a = some f ∧ c.d = d + 1 ∧ bindF f vs = some lm ∧ WSS n ⟨f.kind, d⟩ f.body lm σ fun fl _ σ' => ∃ τ, sle τ σ' ∧ (match fl with
              | .ret v => Q v τ
              | .next => Q .none τ
              | _ => False) := by
  replace h : (match fnAt a, c.d with
      | some f, d + 1 => (match bindF f vs with
          | some lm => WSS n ⟨f.kind, d⟩ f.body lm σ fun fl _ σ' => ∃ τ, sle τ σ' ∧ (match fl with
              | .ret v => Q v τ
              | .next => Q .none τ
              | _ => False)
          | none => False)
      | _, _ => False) := h
  cases hf : fnAt a with
  | none => rw [hf] at h; exact h.elim
  | some f =>
    rw [hf] at h
    cases hd : c.d with
    | zero => rw [hd] at h; exact h.elim
    | succ d =>
      rw [hd] at h
      replace h : (match bindF f vs with
          | some lm => WSS n ⟨f.kind, d⟩ f.body lm σ fun fl _ σ' => ∃ τ, sle τ σ' ∧ (match fl with
              | .ret v => Q v τ
              | .next => Q .none τ
              | _ => False)
          | none => False) := h
      cases hl : bindF f vs with
      | none => rw [hl] at h; exact h.elim
      | some lm => rw [hl] at h; exact ⟨f, d, lm, rfl, rfl, hl, h⟩

theorem scf {n : Nat} (Z : Wf w B) (hS : SSS w B n) : SCf w B (n + 1) := by
  intro c A R s a vs us σ k hR I hsz hr h K
  obtain ⟨f, d, lm, hf, hd, hlm, h⟩ := wcf_inv h
  · · have hmem := lookup_mem (show fnTab.lookup a = some f from hf)
      unfold bindF at hlm
      split at hlm
      · rename_i hlen
        cases hlm
        have hl := hr.length
        have hX : (KK w.params).In s.heap := fun b o e => I.base b o (Z.X b o e)
        have hobj := hX _ _ (obj_ok w.params _ hmem)
        have hl1 : f.params.length ≤ us.length + f.dfltPV.length := by omega
        have hl2 : us.length ≤ f.params.length := by omega
        have hsc := List.all_eq_true.mp scopes_ok _ hmem
        unfold scopeOk at hsc
        simp only [Bool.and_eq_true, Bool.not_eq_true', beq_iff_eq, List.all_eq_true, decide_eq_true_eq] at hsc
        obtain ⟨⟨⟨⟨⟨⟨⟨⟨q1, q2⟩, q3⟩, q4⟩, q5⟩, q6⟩, q7⟩, q8⟩, q9⟩ := hsc
        have hcode : s.heap.CodeRec f.data.code f.data.qualname := by
          have := List.all_eq_true.mp (codes_ok w.params) _ hmem
          unfold codeOk at this
          split at this
          · rename_i e
            split at this
            · rename_i qn tq e2
              exact ⟨_, _, _, tq, rfl, hX _ _ e, rfl, by rw [e2, beq_iff_eq.mp this]; rfl⟩
            · cases this
          · cases this
        have hdep : A.depth < recursionLimit := by have := hR.depth; rw [hd] at this; show _ < 1000; omega
        refine codeAny_call_function hdep hobj rfl q1 q2 rfl hcode ?_
        refine kp_binds hX (fun S => bind_ok w.params S _ hmem us (by omega) (by omega)) _ _ _ _ ?_
        refine wpAny_newFunctionEnv_cells (scope := f.data.scope) q3 (fun x hx => .inl (q4 _ ?_)) fun env' he s' x => ?_
        · exact (List.of_mem_zip hx).1
        subst he
        have keep := x.toInCall.keep
        refine ⟨(Z.lim.keeps I.base).keeps keep, codeAny_func ?_⟩
        obtain ⟨h₁, tk, rfl⟩ := x.toInCall.same
        have above : ∀ y b, (cellsFrom (s.heap.objs.size + 1) (scopeOf f.st).names []).lookup y = some b → s.heap.objs.size < b := fun y b e => x.above y b (lookup_mem e)
        have gt : ∀ b, s.heap.objs.size ≤ b → σ b = none := fun b hb => I.none_at (get_above hb)
        have gB : ∀ b, s.heap.objs.size ≤ b → B.get? b = none := fun b hb => get_above (Nat.le_trans hsz hb)
        have hr₁ : RelL B h₁ vs us := hr.mono fun b o _ e => keep b o e
        have hF := bind_local (B := B) (h := h₁) (kind := f.kind) (lm := noLM) (m := fun _ => none) (ps := f.params) (vs := vs ++ f.dfltPV.drop (vs.length + f.dfltPV.length - f.params.length)) (us := us ++ (f.dfltPV.drop (us.length + f.dfltPV.length - f.params.length)).map dfltV) q4
          (by rw [hl]; exact hr₁.append (relL_dflt (all_drop _ (List.all_eq_true.mpr q7)))) (fun x v e => nomatch e)
        have S : St w B ⟨f.kind, d⟩ (newEnv f.data.scope s.heap.objs.size f.data.globals (cellsFrom (s.heap.objs.size + 1) f.data.scope.names []) (f.data.qualname ++ ".<locals>.") (some a) f.data.code none f.data.builtins) (bindL (f.params.zip (vs ++ f.dfltPV.drop (vs.length + f.dfltPV.length - f.params.length)))) σ h₁ := by
          refine ⟨⟨q3, rfl, rfl, fun x kd e _ => e, fun x e => ?_, fun y z b e1 e2 => ?_, fun p hp => lookup_of_mem_nodup (cellsFrom_names (scopeOf f.st).names 0 (s.heap.objs.size + 1) [] [] rfl ▸ q9) hp, q5, q6⟩, (Aft.of_keeps (L := 0) (cl := []) I keep).inv, ⟨_, x.toInCall.ns, fun y v e => .inl ?_⟩, gt _ (Nat.le_refl _), hsz, fun y b e => gB b (Nat.le_of_lt (above y b e)), fun y b e => ⟨gt b (Nat.le_of_lt (above y b e)), Nat.ne_of_gt (above y b e), _, x.cell y b e⟩⟩
          · exact Option.isSome_iff_exists.mp (cellsFrom_some _ _ _ (.inl e))
          · exact apart_inj x.apart (lookup_mem e1) (lookup_mem e2)
          · exact hF y v e
        refine hS _ _ _ _ _ (A.deeper _) _ _ _ _ ⟨hR.handled, ?_, ?_⟩ S h fun fl v lm' σ' h' tk' hk hfl S' X => ?_
        · have := hR.depth; rw [hd] at this; show A.depth + 1 + 4 * d + 4 ≤ 1000; omega
        · have := hR.units; rw [hd] at this; show A.units + 3 + 20 * d + 200 ≤ 9900; omega
        obtain ⟨τ, hτ, hk⟩ := hk
        have ncl : ∀ b o, s.heap.get? b = some o → b ∉ (cellsFrom (s.heap.objs.size + 1) (scopeOf f.st).names []).map (·.2) := fun b o e hm => by
          obtain ⟨⟨y, b'⟩, hm', rfl⟩ := List.mem_map.mp hm
          exact absurd (Heap.lt_size e) (Nat.not_lt.mpr (Nat.le_of_lt (x.above y b' hm')))
        have dm : ∀ b, τ b ≠ none → σ b ≠ none ∨ s.heap.get? b = none := fun b q => by
          have q' : σ' b ≠ none := by
            cases z : τ b with
            | none => exact absurd z q
            | some o => rw [hτ b o z]; exact nofun
          refine (X.dom b q').imp id fun z => ?_
          cases e : s.heap.get? b with
          | none => rfl
          | some o => rw [keep b o e] at z; cases z
        have fin : ∀ L cl, Aft w B σ τ L cl s.heap h' := fun L cl =>
          ⟨X.inv.forget hτ, fun b o e cc => X.keep b o (keep b o e) (cc.imp id fun ⟨_, _, c3⟩ => ⟨Nat.ne_of_lt (Heap.lt_size e), ncl b o e, c3⟩), fun b o e => X.alive b o (keep b o e), dm⟩
        cases hfl with
        | ret hv => exact K _ _ τ h' tk' hk hv fin
        | next => exact K _ _ τ h' tk' hk .none fin
        | cont => exact hk.elim
        | brk => exact hk.elim
      · cases hlm
end
end
section
open PySem PySem.W PyProof.Rows PySem.Calls
noncomputable def SBo (w : World) (B : Heap) (n : Nat) : Prop := ∀ c env lm σ k A E Q s pos op es, Room A c.d → St w B c env lm σ s.heap → WBo n c op es lm σ k → Kont w B c env lm σ s k Q → wpAny (model pw w) A (boolOp pos op (evalEach es env)) Q E s
noncomputable def STb (w : World) (B : Heap) (n : Nat) : Prop := ∀ c env lm σ k A E Q s op es, Room A c.d → St w B c env lm σ s.heap → WTb n c op es lm σ k → KontB w B c env lm σ s k Q → wpAny (model pw w) A (allTrue op es env) Q E s
noncomputable def SL (w : World) (B : Heap) (n : Nat) : Prop := ∀ c env lm σ k A E Q s pos es, noStar es = true → Room A c.d → St w B c env lm σ s.heap → WL n c es lm σ k → KontL w B c env lm σ s k Q → wpAny (model pw w) A (spliced (backTo pos (starEach es env))) Q E s
noncomputable def SCa (w : World) (B : Heap) (n : Nat) : Prop := ∀ c env lm σ k A E Q s fv fvv vs us, Room A c.d → St w B c env lm σ s.heap → Rel B s.heap fv fvv → RelL B s.heap vs us → WCa n c fv vs σ k → Kont w B c env lm σ s k Q → wpAny (model pw w) A (call fvv us) Q E s
noncomputable def SMe (w : World) (B : Heap) (n : Nat) : Prop := ∀ c env lm σ k A E Q s f o ov vs us, Room A c.d → St w B c env lm σ s.heap → Rel B s.heap o ov → RelL B s.heap vs us → WMe n c f o vs σ k → Kont w B c env lm σ s k Q → wpAny (model pw w) A (call (metOf ov f).1 ((metOf ov f).2 ++ us)) Q E s

section
variable {w : World} {B : Heap} {c : Cx} {env : Env} {lm : LM} {σ σ₁ : Sg} {A : Around} {E : Value → Shared → Prop} {s : Shared} {k : PV → Sg → Prop} {Q : Value → Shared → Prop} {h₁ : Heap} {tk : Nat}

theorem St.hX (Z : Wf w B) (S : St w B c env lm σ s.heap) : (KK w.params).In s.heap := fun b o e => S.inv.base b o (Z.X b o e)

/-- from the call's own after to the caller's -/
theorem KontC.of (S : St w B c env lm σ s.heap) (K : Kont w B c env lm σ s k Q) : KontC w B σ s k Q := fun pv v σ' h' tk hk r X => by
  have hL : ∀ o, s.heap.get? env.locals = some o → h'.get? env.locals = some o := fun o e => (X (env.locals + 1) []).keep _ o e (.inr ⟨Nat.ne_of_lt (Nat.lt_succ_self _), nofun, S.ok.l⟩)
  exact K pv v σ' h' tk hk r (S.stepX (X _ _) hL) (X _ _) hL

theorem scall {n : Nat} (hC : SCf w B n) {a : Addr} {vs : List PV} {us : List Value} (R : Room A c.d) (S : St w B c env lm σ s.heap) (r : RelL B s.heap vs us) (h : WCf n c a vs σ k) (K : Kont w B c env lm σ s k Q) :
    wpAny (model pw w) A (call (.ref a) us) Q E s := by
  refine wpAny_call (hC c A _ s a vs us σ k ⟨R.handled, ?_, ?_⟩ S.inv S.leB r h (KontC.of S K))
  · have := R.depth; omega
  · have := R.units; omega

theorem smake {n : Nat} (Z : Wf w B) (hC : SCf w B n) {C fi : Addr} {vs : List PV} {us : List Value} (R : Room A c.d) (S : St w B c env lm σ s.heap) (r : RelL B s.heap vs us) (hi : initAt C = some fi)
    (h : ∀ x dx, x ≠ dx → σ x = none → σ dx = none → WCf n c fi (.ref x :: vs) (sset (sset σ dx (.flds [])) x (.inst C dx)) fun v σ' => v = .none ∧ k (.ref x) σ') (K : Kont w B c env lm σ s k Q) :
    wpAny (model pw w) A (call (.ref C) us) Q E s := by
  have hin : (C, fi) ∈ [((258 : Addr), (185 : Addr)), (413, 291)] := by
    unfold initAt at hi
    split at hi
    · rename_i q; cases hi; subst q; exact .head _
    · split at hi
      · rename_i q; cases hi; subst q; exact .tail _ (.head _)
      · cases hi
  have q := List.all_eq_true.mp (inits_ok w.params) _ hin
  simp only [Bool.and_eq_true, beq_iff_eq] at q
  obtain ⟨⟨⟨q1, q2⟩, q3⟩, q4⟩ := q
  have X := S.hX Z
  refine wpAny_call ?_
  obtain ⟨hh, g, d, t, os⟩ := s
  refine make_core (makes_of X q2) (looks_findIn X q3) (fun self => bind_fn X self q4) (.inl rfl) ?_
  have n1 : hh.get? hh.objs.size = none := get_size hh
  have n2 : hh.get? (hh.objs.size + 1) = none := get_above (Nat.le_succ _)
  have lB : B.objs.size ≤ hh.objs.size := S.leB
  have k1 : ∀ b o, hh.get? b = some o → (hh.push emptyDict).get? b = some o := fun b o e => Heap.get?_push_of_some _ e
  have k2 : ∀ b o, (hh.push emptyDict).get? b = some o → ((hh.push emptyDict).push (instObj C hh.objs.size)).get? b = some o := fun b o e => Heap.get?_push_of_some _ e
  have sz : (hh.push emptyDict).objs.size = hh.objs.size + 1 := Heap.size_push ..
  have n3 : (hh.push emptyDict).get? (hh.objs.size + 1) = none := get_above (Nat.le_of_eq sz)
  have hne : hh.objs.size + 1 ≠ hh.objs.size := Nat.succ_ne_self _
  have X1 : ∀ L cl, Aft w B σ (sset σ hh.objs.size (.flds [])) L cl hh (hh.push emptyDict) := fun L cl => Aft.alloc S.inv k1 n1 (fun q => by cases q) ⟨[], 0, Heap.get?_push_size _ rfl, .nil⟩
  have X2 : ∀ L cl, Aft w B (sset σ hh.objs.size (.flds [])) (sset (sset σ hh.objs.size (.flds [])) (hh.objs.size + 1) (.inst C hh.objs.size)) L cl (hh.push emptyDict) ((hh.push emptyDict).push (instObj C hh.objs.size)) := fun L cl =>
    Aft.alloc (X1 0 []).inv k2 n3 (fun q => by cases q) (by
      show Heap.get? _ _ = some _
      have := Heap.get?_push_size (hh.push emptyDict) (o := instObj C hh.objs.size) rfl
      rw [sz] at this; exact this)
  have X3 : ∀ L cl, Aft w B σ (sset (sset σ hh.objs.size (.flds [])) (hh.objs.size + 1) (.inst C hh.objs.size)) L cl hh ((hh.push emptyDict).push (instObj C hh.objs.size)) := fun L cl => (X1 L cl).trans (X2 L cl)
  have hw := h (hh.objs.size + 1) hh.objs.size hne (S.inv.none_at n2) (S.inv.none_at n1)
  refine hC c _ _ _ fi _ _ _ _ ⟨R.handled, ?_, ?_⟩ (X3 0 []).inv ?_ (.cons (.ref _) (r.mono fun b o _ e => k2 b o (k1 b o e))) hw fun pv v σ' h' tk hk hr X4 => ?_
  · have hw : (Code.builtin "type.__call__" ⟨.ref C :: us, []⟩).weight ≤ 1 := by
      exact Nat.le_of_eq (by kernel_rfl : (Code.builtin "type.__call__" ⟨.ref C :: us, []⟩).weight = 1)
    have := R.depth
    show A.depth + _ + 4 * c.d + 2 ≤ 1000
    omega
  · have hw : (Code.builtin "type.__call__" ⟨.ref C :: us, []⟩).cUnits = 1 := rfl
    have := R.units
    show A.units + _ + 20 * c.d + 190 ≤ 9900
    rw [hw]; omega
  · show B.objs.size ≤ ((hh.push emptyDict).push (instObj C hh.objs.size)).objs.size
    rw [Heap.size_push, Heap.size_push]; omega
  · obtain ⟨rfl, hk⟩ := hk
    cases hr
    exact ⟨rfl, KontC.of S K (.ref _) (.ref _) σ' h' tk hk (.ref _) fun L cl => (X3 L cl).trans (X4 L cl)⟩

theorem sca {n : Nat} (Z : Wf w B) (hC : SCf w B n) : SCa w B (n + 1) := by
  intro c env lm σ k A E Q s fv fvv vs us R S rf r h K
  cases fv with
  | con u =>
    cases u with
    | builtin id => cases rf; exact sfun h R S r K
    | type T => cases rf; exact styp h S r K
    | _ => exact False.elim h
  | ref a =>
    cases rf
    replace h : (match initAt a with
          | some fi => ∀ x dx, x ≠ dx → σ x = none → σ dx = none → WCf n c fi (.ref x :: vs) (sset (sset σ dx (.flds [])) x (.inst a dx)) fun v σ' => v = .none ∧ k (.ref x) σ'
          | none => WCf n c a vs σ k) := h
    cases e : initAt a with
    | some fi => rw [e] at h; exact smake Z hC R S r e h K
    | none => rw [e] at h; exact scall hC R S r h K
  | _ => exact False.elim h
theorem sme {n : Nat} (Z : Wf w B) (hC : SCf w B n) : SMe w B (n + 1) := by
  intro c env lm σ k A E Q s f o ov vs us R S ro r h K
  cases f with
  | inl f => exact scall hC R S (.cons ro r) h K
  | inr id => exact smet Z h R S ro r K

theorem noStar_cons {e : Expr} {r : List Expr} (h : noStar (e :: r) = true) : isStar e = false ∧ noStar r = true := by
  unfold noStar at h
  rw [List.all_cons, Bool.and_eq_true] at h
  exact ⟨by simpa using h.1, h.2⟩
theorem star_cons {e : Expr} {r : List Expr} (h : isStar e = false) : starEach (e :: r) env = (false, eval e env) :: starEach r env := by
  cases e <;> first | rfl | cases h
theorem plain_of {es : List Expr} {pos : Pos} (h : noStar es = true) : (backTo pos (starEach es env)).any (·.1) = false := by
  induction es with
  | nil => rfl
  | cons e r ih =>
    obtain ⟨h1, h2⟩ := noStar_cons h
    rw [star_cons h1]
    show (false || (backTo pos (starEach r env)).any (·.1)) = false
    rw [ih h2]; rfl
theorem sl {n : Nat} (hE : SE w B n) (hl : SL w B n) : SL w B (n + 1) := by
  intro c env lm σ k A E Q s pos es hs R S h K
  cases es with
  | nil =>
    exact args_nil (K [] [] σ s.heap s.toks h .nil S (Aft.refl S.inv) fun _ e => e)
  | cons e r =>
    obtain ⟨h1, h2⟩ := noStar_cons hs
    refine args_cons ?_ (star_cons h1)
    refine hE c env lm σ _ A E _ s e R S h fun pv v σ₁ h₁ tk₁ hk rv S₁ x₁ hL₁ => ?_
    refine hl c env lm σ₁ _ A E _ { s with heap := h₁, toks := tk₁ } pos r h2 R S₁ hk fun ps vs σ₂ h₂ tk₂ hk₂ rs S₂ x₂ hL₂ => ?_
    exact K (pv :: ps) (v :: vs) σ₂ h₂ tk₂ hk₂ (.cons (rv.mono x₂.imm) rs) S₂ (x₁.trans x₂) fun o e => hL₂ o (hL₁ o e)

theorem evalArgs_gen {f : Value} {es : List Expr} {pos : Pos} {Q : Args → Shared → Prop} (hs : noStar es = true) (h : wpAny (model pw w) A (spliced (backTo pos (starEach es env))) (fun vs s' => Q ⟨vs, []⟩ s') E s) :
    wpAny (model pw w) A (evalArgs f true (backTo pos (starEach es env)) []) Q E s := by
  cases es with
  | nil =>
    unfold evalArgs
    show wpAny (model pw w) A (spliced [] >>= _) Q E s
    refine wpAny_bind (wpAny_mono h (fun vs s' h' => ?_) fun _ _ x => x)
    refine wpAny_bind (wpAny_pure ?_)
    refine wpAny_holding ?_
    exact wpAny_bind (wpAny_pure (wpAny_bind (wpAny_pure (wpAny_pure h'))))
  | cons e r =>
    obtain ⟨h1, h2⟩ := noStar_cons hs
    rw [star_cons h1] at h ⊢
    exact evalArgs_plain h

/-- which values may be called -/
noncomputable def Callee (K : Frag) : Value → Prop
  | .builtin _ => True
  | .type _ => True
  | v => keepIn K v = true
theorem scallW {f : Value} {first : List Value} {es : List Expr} {pos : Pos} (hf : Callee (KK w.params) f) (hs : noStar es = true)
    (h : wpAny (model pw w) A (spliced (backTo pos (starEach es env))) (fun vs s₁ => (KK w.params).In s₁.heap ∧ wpAny (model pw w) A (call f (first ++ vs)) Q E s₁) E s) :
    wpAny (model pw w) A (callWith pos f first (backTo pos (starEach es env)) []) Q E s := by
  have go : keepIn (KK w.params) f = true → wpAny (model pw w) A (callWith pos f first (backTo pos (starEach es env)) []) Q E s := fun hf =>
    callWith_of (P := (KK w.params).In) (by rw [plain_of hs]; rfl) (keeps_K hf) (evalArgs_gen hs h)
  cases f with
  | builtin _ => exact callWith_builtin (plain_of hs) (evalArgs_gen hs (wpAny_mono h (fun vs s' h' => h'.2) fun _ _ x => x))
  | type _ => exact PyProof.Rows.callWith_type (plain_of hs) (evalArgs_gen hs (wpAny_mono h (fun vs s' h' => h'.2) fun _ _ x => x))
  | _ => exact go hf

end
end
section
open PySem PySem.W PyProof.Rows PySem.Calls
section
variable {w : World} {B : Heap} {c : Cx} {env : Env} {lm : LM} {σ σ₁ : Sg} {A : Around} {E : Value → Shared → Prop} {s : Shared} {k : PV → Sg → Prop} {Q : Value → Shared → Prop} {h₁ : Heap} {tk : Nat}

theorem sbo {n : Nat} (hE : SE w B n) (hB : SBo w B n) : SBo w B (n + 1) := by
  intro c env lm σ k A E Q s pos op es R S h K
  match es, h with
  | [], h => exact False.elim h
  | [e], h =>
    exact hE c env lm σ k A E Q s e R S h K
  | e :: e2 :: r, h =>
    show wpAny (model pw w) A (do
      let v ← eval e env
      standAt pos
      let t ← holding [v] (truthy v)
      match op, t with
      | .And, false | .Or, true => pure v
      | _, _ => boolOp pos op (evalEach (e2 :: r) env)) Q E s
    refine wpAny_bind (hE c env lm σ _ A E _ s e R S h fun pv v σ₁ h₁ tk₁ hk rv S₁ x₁ hL₁ => ?_)
    refine wpAny_bind (wpAny_standAt ?_)
    have K' := K.after (tk := tk₁) x₁ hL₁
    cases pv with
    | bool b =>
     cases rv
     refine wpAny_bind (wpAny_holding (wpAny_truthy_bool ?_))
     cases op with
     | And =>
      replace hk : if b = true then WBo n c .And (e2 :: r) lm σ₁ k else k (.bool false) σ₁ := hk
      cases b with
      | true =>
        rw [if_pos rfl] at hk
        exact hB c env lm σ₁ k A E Q { s with heap := h₁, toks := tk₁ } pos _ (e2 :: r) R S₁ hk K'
      | false =>
        rw [if_neg (by decide)] at hk
        exact wpAny_pure (K _ _ σ₁ h₁ tk₁ hk (.bool _) S₁ x₁ hL₁)
     | Or =>
      replace hk : if b = true then k (.bool true) σ₁ else WBo n c .Or (e2 :: r) lm σ₁ k := hk
      cases b with
      | false =>
        rw [if_neg (by decide)] at hk
        exact hB c env lm σ₁ k A E Q { s with heap := h₁, toks := tk₁ } pos _ (e2 :: r) R S₁ hk K'
      | true =>
        rw [if_pos rfl] at hk
        exact wpAny_pure (K _ _ σ₁ h₁ tk₁ hk (.bool _) S₁ x₁ hL₁)
    | _ => exact False.elim hk
theorem stb {n : Nat} (hT : ST w B n) (hB : STb w B n) : STb w B (n + 1) := by
  intro c env lm σ k A E Q s op es R S h K
  cases es with
  | nil =>
    refine wpAny_pure (K _ σ s.heap s.toks ?_ S (Aft.refl S.inv) fun _ e => e)
    cases op <;> exact h
  | cons e r =>
    unfold allTrue
    refine wpAny_bind (hT c env lm σ _ A E _ s e R S h fun b σ₁ h₁ tk₁ hk S₁ x₁ hL₁ => ?_)
    have K' := K.after (tk := tk₁) x₁ hL₁
    cases op with
    | And =>
      replace hk : if b = true then WTb n c .And r lm σ₁ k else k false σ₁ := hk
      cases b with
      | false => rw [if_neg (by decide)] at hk; exact wpAny_pure (K _ σ₁ h₁ tk₁ hk S₁ x₁ hL₁)
      | true => rw [if_pos rfl] at hk; exact hB c env lm σ₁ k A E Q { s with heap := h₁, toks := tk₁ } _ r R S₁ hk K'
    | Or =>
      replace hk : if b = true then k true σ₁ else WTb n c .Or r lm σ₁ k := hk
      cases b with
      | false => rw [if_neg (by decide)] at hk; exact hB c env lm σ₁ k A E Q { s with heap := h₁, toks := tk₁ } _ r R S₁ hk K'
      | true => rw [if_pos rfl] at hk; exact wpAny_pure (K _ σ₁ h₁ tk₁ hk S₁ x₁ hL₁)
theorem sts {n : Nat} (hT : ST w B n) : STs w B (n + 1) := by
  intro c env lm σ k A E Q s ifs R S h K
  match ifs, h with
  | [], h =>
    exact wpAny_pure (K true σ s.heap s.toks h S (Aft.refl S.inv) fun _ e => e)
  | [e], h =>
    rw [List.forIn_cons]
    refine wpAny_bind ?_
    rw [if_pos rfl]
    refine wpAny_bind (hT c env lm σ k A E _ s e R S h fun b σ₁ h₁ tk₁ hk S₁ x₁ hL₁ => ?_)
    exact wpAny_pure (wpAny_pure (K b σ₁ h₁ tk₁ hk S₁ x₁ hL₁))
  | e :: e2 :: r, h => exact False.elim h

theorem noSetD {op : CmpOp} {r : Expr} (h : isSetD r = false) : behindInMarks op r = false := by cases r <;> first | rfl | cases h

theorem st {n : Nat} (hE : SE w B n) (hT : ST w B n) (hB : STb w B n) : ST w B (n + 1) := by
  intro c env lm σ k A E Q s e R S h K
  have plain : ∀ e', e' = e → (∀ whole, isTrue e env whole = (do let v ← whole; standAt e.pos; holding [v] (truthy v))) → WE n c e lm σ (fun v σ₁ => match v with | .bool b => k b σ₁ | _ => False) → wpAny (model pw w) A (isTrue e env (eval e env)) Q E s := by
    intro e' _ he h
    rw [he]
    refine wpAny_bind (hE c env lm σ _ A E _ s e R S h fun pv v σ₁ h₁ tk₁ hk rv S₁ x₁ hL₁ => ?_)
    refine wpAny_bind (wpAny_standAt (wpAny_holding ?_))
    cases pv with
    | bool b => cases rv; exact wpAny_truthy_bool (K _ σ₁ h₁ tk₁ hk S₁ x₁ hL₁)
    | _ => exact False.elim hk
  cases e with
  | BoolOp op es p => exact wpAny_isTrue_BoolOp (hB c env lm σ k A E Q s op es R S h K)
  | UnaryOp op e p =>
    cases op with
    | Not => exact wpAny_isTrue_Not (hT c env lm σ _ A E _ s e R S h fun b σ₁ h₁ tk₁ hk S₁ x₁ hL₁ => K _ σ₁ h₁ tk₁ hk S₁ x₁ hL₁)
    | _ => exact False.elim h
  | Compare l ops rs p =>
    match ops, rs, h with
    | [op], [r], h =>
      refine wpAny_isTrue_Compare1 ?_ (noSetD h.1)
      refine hE c env lm σ _ A E _ s l R S h.2 fun pv v σ₁ h₁ tk₁ hk rv S₁ x₁ hL₁ => ?_
      refine hE c env lm σ₁ _ A E _ { s with heap := h₁, toks := tk₁ } r R S₁ hk fun pv' v' σ₂ h₂ tk₂ hk₂ rv' S₂ x₂ hL₂ => ?_
      exact scmp (s := { s with heap := h₂, toks := tk₂ }) hk₂ R S₂.inv (rv.mono x₂.imm) rv' fun b hb => wpAny_truthy_bool (K b σ₂ h₂ tk₂ hb S₂ (x₁.trans x₂) fun o e => hL₂ o (hL₁ o e))
    | [], _, h => exact False.elim h
    | _ :: _ :: _, _, h => exact False.elim h
    | [_], [], h => exact False.elim h
    | [_], _ :: _ :: _, h => exact False.elim h
  | Name x p => exact plain _ rfl (fun _ => rfl) h
  | Constant a b p => exact plain _ rfl (fun _ => rfl) h
  | Call a b d p => exact plain _ rfl (fun _ => rfl) h
  | _ => exact False.elim h

theorem sunary_neg {i : Int} {t : Tok} (K : ∀ t tk, Q (.int (-i) t) { s with toks := tk }) : wpAny (model pw w) A (unaryOp .USub (.int i t)) Q E s := PyProof.Rows.neg_int (K _ _)
theorem sunary_not {b : Bool} (K : Q (.bool (!b)) s) : wpAny (model pw w) A (unaryOp .Not (.bool b)) Q E s := by
  unfold unaryOp
  refine wpAny_holding ?_
  exact wpAny_bind (wpAny_truthy_bool (wpAny_pure K))

theorem isCall_base {o : Expr} {m : Str} {whole : Sem Value} (h : isCall o = false) : attributeBase o m env whole = whole := by cases o <;> first | rfl | cases h

theorem ssub {n : Nat} (hE : SE w B n) {o i : Expr} {p : Pos} (hi : ∀ a b, subscripted i false a b = operate [a, b] (getItem a b)) (R : Room A c.d) (S : St w B c env lm σ s.heap)
    (h : WE n c o lm σ fun ov σ₁ => WE n c i lm σ₁ fun iv σ₂ => WItem ov iv σ₂ fun v => k v σ₂) (K : Kont w B c env lm σ s k Q) : wpAny (model pw w) A (eval (.Subscript o i p) env) Q E s := by
  refine Subscript_ ?_
  refine hE c env lm σ _ A E _ s o R S h fun pv v σ₁ h₁ tk₁ hk rv S₁ x₁ hL₁ => ?_
  refine hE c env lm σ₁ _ A E _ { s with heap := h₁, toks := tk₁ } i R S₁ hk fun pv' v' σ₂ h₂ tk₂ hk₂ rv' S₂ x₂ hL₂ => ?_
  obtain ⟨g, T, id, hT, hl⟩ := sitem (A := A) (E := E) (s := { s with heap := h₂, toks := tk₂ }) (value := o) (slice := i) (Q := Q) hk₂ S₂ (rv.mono x₂.imm) rv' fun u uv σ' h' tk' hk' ru S' x' hL' => by
    obtain ⟨hk', rfl⟩ := hk'
    exact K u uv σ' h' tk' hk' ru S' ((x₁.trans x₂).trans x') fun o e => hL' o (hL₂ o (hL₁ o e))
  exact tail_any hT hl g (hi _ _)

theorem keep_fn {a : Addr} (h : (fnAt a).isSome = true) : keepIn (KK w.params) (.ref a) = true := by
  obtain ⟨f, hf⟩ := Option.isSome_iff_exists.mp h
  exact List.all_eq_true.mp (keeps_ok w.params) _ (lookup_mem (show fnTab.lookup a = some f from hf))
theorem callee_of {h : Heap} {fv : PV} {v : Value} (r : Rel B h fv v) (hf : isFun fv = true) : Callee (KK w.params) v := by
  cases fv with
  | con u =>
    cases u with
    | builtin _ => cases r; trivial
    | type _ => cases r; trivial
    | _ => cases hf
  | ref a =>
    cases r
    replace hf : ((initAt a).isSome || (fnAt a).isSome) = true := hf
    show keepIn (KK w.params) (.ref a) = true
    rw [Bool.or_eq_true] at hf
    rcases hf with hf | hf
    · have q := inits_ok w.params
      rw [List.all_eq_true] at q
      unfold initAt at hf
      split at hf
      · rename_i e
        have := q (258, 185) (.head _)
        simp only [Bool.and_eq_true] at this
        rw [e]; exact this.1.1.1
      · split at hf
        · rename_i e
          have := q (413, 291) (.tail _ (.head _))
          simp only [Bool.and_eq_true] at this
          rw [e]; exact this.1.1.1
        · cases hf
    · exact keep_fn hf
  | _ => cases hf
theorem met_callee {f : Addr ⊕ String} {ov : Value} (hf : isMet f = true) : Callee (KK w.params) (metOf ov f).1 := by
  cases f with
  | inl a => exact keep_fn hf
  | inr id => trivial

theorem se {n : Nat} (Z : Wf w B) (IH : ∀ m, m ≤ n → SE w B m) (hT : ∀ m, m ≤ n → ST w B m) (hTs : ∀ m, m ≤ n → STs w B m) (hB : SBo w B n) (hL : SL w B n) (hCa : SCa w B n) (hMe : SMe w B n) : SE w B (n + 1) := by
  have hE := IH n (Nat.le_refl _)
  intro c env lm σ k A E Q s e R S h K
  cases e with
  | Constant k j p =>
    cases k with
    | none => exact wpAny_pure (K.same S (tk := s.toks) h .none)
    | bool b => exact wpAny_pure (K.same S (tk := s.toks) h (.bool _))
    | int i => exact wpAny_mkInt (K.same S h (.int _ _))
    | str x => exact Constant_str (K.same S h (.str _ _))
    | _ => exact False.elim h
  | Name x p => exact sname Z h S K
  | BoolOp op es p => exact hB c env lm σ k A E Q s p op es R S h K
  | UnaryOp op e p =>
    cases op with
    | Not =>
      refine wpAny_UnaryOp (hE c env lm σ _ A E _ s e R S h fun pv v σ₁ h₁ tk₁ hk rv S₁ x₁ hL₁ => ?_)
      cases pv with
      | bool b => cases rv; exact sunary_not (K _ _ σ₁ h₁ tk₁ hk (.bool _) S₁ x₁ hL₁)
      | _ => exact False.elim hk
    | USub =>
      refine wpAny_UnaryOp (hE c env lm σ _ A E _ s e R S h fun pv v σ₁ h₁ tk₁ hk rv S₁ x₁ hL₁ => ?_)
      cases pv with
      | int i => cases rv; exact sunary_neg fun t tk => K _ _ σ₁ h₁ tk hk (.int _ _) S₁ x₁ hL₁
      | _ => exact False.elim hk
    | _ => exact False.elim h
  | BinOp l op r p =>
    refine wpAny_BinOp ?_
    refine hE c env lm σ _ A E _ s l R S h fun pv v σ₁ h₁ tk₁ hk rv S₁ x₁ hL₁ => ?_
    refine hE c env lm σ₁ _ A E _ { s with heap := h₁, toks := tk₁ } r R S₁ hk fun pv' v' σ₂ h₂ tk₂ hk₂ rv' S₂ x₂ hL₂ => ?_
    exact sbin (s := { s with heap := h₂, toks := tk₂ }) hk₂ (rv.mono x₂.imm) rv' fun u uv tk hu ru => K u uv σ₂ h₂ tk hu ru S₂ (x₁.trans x₂) fun o e => hL₂ o (hL₁ o e)
  | Compare l ops rs p =>
    match ops, rs, h with
    | [op], [r], h =>
      refine wpAny_Compare1 ?_ (noSetD h.1)
      refine hE c env lm σ _ A E _ s l R S h.2 fun pv v σ₁ h₁ tk₁ hk rv S₁ x₁ hL₁ => ?_
      refine hE c env lm σ₁ _ A E _ { s with heap := h₁, toks := tk₁ } r R S₁ hk fun pv' v' σ₂ h₂ tk₂ hk₂ rv' S₂ x₂ hL₂ => ?_
      exact scmp (s := { s with heap := h₂, toks := tk₂ }) hk₂ R S₂.inv (rv.mono x₂.imm) rv' fun b hb => K _ _ σ₂ h₂ tk₂ hb (.bool _) S₂ (x₁.trans x₂) fun o e => hL₂ o (hL₁ o e)
    | [], _, h => exact False.elim h
    | _ :: _ :: _, _, h => exact False.elim h
    | [_], [], h => exact False.elim h
    | [_], _ :: _ :: _, h => exact False.elim h
  | IfExp t a b p =>
    refine wpAny_IfExp (hT n (Nat.le_refl _) c env lm σ _ A E _ s t R S h fun v σ₁ h₁ tk₁ hk S₁ x₁ hL₁ => ?_)
    have K' := K.after (tk := tk₁) x₁ hL₁
    replace hk : if v = true then WE n c a lm σ₁ k else WE n c b lm σ₁ k := hk
    cases v with
    | false => rw [if_neg (by decide)] at hk; exact hE c env lm σ₁ k A E Q { s with heap := h₁, toks := tk₁ } b R S₁ hk K'
    | true => rw [if_pos rfl] at hk; exact hE c env lm σ₁ k A E Q { s with heap := h₁, toks := tk₁ } a R S₁ hk K'
  | Call f args kws p =>
    cases kws with
    | cons _ _ => cases f <;> exact False.elim h
    | nil =>
    cases f with
    | Attribute o m ap =>
      obtain ⟨hok, h⟩ := h
      unfold okM okArgs at hok
      simp only [Bool.and_eq_true, Bool.not_eq_true', decide_eq_true_eq] at hok
      obtain ⟨⟨ho, hns, hlen⟩, hline⟩ := hok
      rw [arm_eval_Call, isCall_base ho]
      refine wpAny_bind (hE c env lm σ _ A E _ s o R S h fun ov ovv σ₁ h₁ tk₁ hk ro S₁ x₁ hL₁ => ?_)
      refine wpAny_bind (wpAny_standAt ?_)
      have hform : methodCallForm (args.length + ([] : List Keyword).length) (backTo p (starEach args env)) (backToKw p (keywordEach [] env)) = true := by
        unfold methodCallForm
        rw [show ((backTo p (starEach args env)).all fun x => !x.1) = true by
          have := plain_of (env := env) (pos := p) hns
          rw [List.any_eq_false] at this
          rw [List.all_eq_true]; intro y hy; simpa using this y hy]
        simp [backToKw, keywordEach]; omega
      have hpos : methodCallPos true o env ap p = pure p := by unfold methodCallPos; simp [hline]
      unfold methodCall
      rw [hform]
      refine wpAny_bind (wpAny_holding ?_)
      refine sget (s := { s with heap := h₁, toks := tk₁ }) Z hk S₁ ro fun f hf => ?_
      refine wpAny_bind (wpAny_of_eq hpos ?_)
      refine scallW (met_callee hf.1) hns ?_
      refine hL c env lm σ₁ _ A E _ { s with heap := h₁, toks := tk₁ } p args hns R S₁ hf.2 fun ps vs σ₂ h₂ tk₂ hk₂ rs S₂ x₂ hL₂ => ?_
      exact ⟨S₂.hX Z, hMe c env lm σ₂ k A E Q { s with heap := h₂, toks := tk₂ } f ov ovv ps vs R S₂ (ro.mono x₂.imm) rs hk₂ ((K.after (tk := tk₁) x₁ hL₁).after (tk := tk₂) x₂ hL₂)⟩
    | Name f q =>
      obtain ⟨hok, h⟩ := h
      unfold okArgs at hok
      rw [Bool.and_eq_true] at hok
      refine wpAny_Call_NameR (hE c env lm σ _ A E _ s _ R S h fun fv fvv σ₁ h₁ tk₁ hk rf S₁ x₁ hL₁ => ?_)
      refine scallW (callee_of rf hk.1) hok.1 ?_
      · refine hL c env lm σ₁ _ A E _ { s with heap := h₁, toks := tk₁ } p args hok.1 R S₁ hk.2 fun ps vs σ₂ h₂ tk₂ hk₂ rs S₂ x₂ hL₂ => ?_
        exact ⟨S₂.hX Z, hCa c env lm σ₂ k A E Q { s with heap := h₂, toks := tk₂ } fv fvv ps vs R S₂ (rf.mono x₂.imm) rs hk₂ ((K.after (tk := tk₁) x₁ hL₁).after (tk := tk₂) x₂ hL₂)⟩
    | _ => exact False.elim h
  | Attribute o m p =>
    have he : eval (.Attribute o m p) env = (do
      let ov ← eval o env
      standAt p.atName
      let r ← holding [ov] (getAttr ov m true)
      letTemporaryGo o ov r
      pure r) := by
      show (attributeBase o m env (eval o env) >>= _) = _
      rw [isCall_base h.1]
    refine Attribute_any_ (he := he) (hE c env lm σ _ A E _ s o R S h.2 fun pv v σ₁ h₁ tk₁ hk rv S₁ x₁ hL₁ => ?_)
    · refine sattr (s := { s with heap := h₁, toks := tk₁ }) Z hk S₁ rv fun u uv σ' h' tk' hk' ru S' x' hL' => ?_
      obtain ⟨hk', rfl⟩ := hk'
      exact K u uv σ' h' tk' hk' ru S' (x₁.trans x') fun o e => hL' o (hL₁ o e)
  | Subscript o i p =>
    cases i with
    | Slice l u t q =>
      match l, u, t, h with
      | none, some u, none, h =>
        refine Subscript_ (hE c env lm σ _ A E _ s o R S h fun ov ovv σ₁ h₁ tk₁ hk ro S₁ x₁ hL₁ => ?_)
        refine wpAny_Slice (evalPart_none_step (evalPart_some_step (hE c env lm σ₁ _ A E _ { s with heap := h₁, toks := tk₁ } u R S₁ hk fun uv uvv σ₂ h₂ tk₂ hk₂ ru S₂ x₂ hL₂ => evalPart_none_step ?_)))
        cases uv with
        | int i =>
          cases ru
          exact scut (s := { s with heap := h₂, toks := tk₂ }) hk₂ S₂ (ro.mono x₂.imm) .none (.int _ _) ((K.after (tk := tk₁) x₁ hL₁).after (tk := tk₂) x₂ hL₂)
        | _ => exact False.elim hk₂
      | some l, some u, none, h =>
        refine Subscript_ (hE c env lm σ _ A E _ s o R S h fun ov ovv σ₁ h₁ tk₁ hk ro S₁ x₁ hL₁ => ?_)
        refine wpAny_Slice (evalPart_some_step (hE c env lm σ₁ _ A E _ { s with heap := h₁, toks := tk₁ } l R S₁ hk fun lv lvv σ₂ h₂ tk₂ hk₂ rl S₂ x₂ hL₂ => ?_))
        refine evalPart_some_step (hE c env lm σ₂ _ A E _ { s with heap := h₂, toks := tk₂ } u R S₂ hk₂ fun uv uvv σ₃ h₃ tk₃ hk₃ ru S₃ x₃ hL₃ => evalPart_none_step ?_)
        cases lv with
        | int g =>
          cases uv with
          | int i =>
            cases ru
            cases rl
            exact scut (s := { s with heap := h₃, toks := tk₃ }) hk₃ S₃ ((ro.mono x₂.imm).mono x₃.imm) (.int _ _) (.int _ _) (((K.after (tk := tk₁) x₁ hL₁).after (tk := tk₂) x₂ hL₂).after (tk := tk₃) x₃ hL₃)
          | _ => exact False.elim hk₃
        | _ => exact False.elim hk₃
      | none, none, _, h => exact False.elim h
      | some _, none, _, h => exact False.elim h
      | none, some _, some _, h => exact False.elim h
      | some _, some _, some _, h => exact False.elim h
    | Constant _ _ _ => exact ssub hE (fun _ _ => rfl) R S h K
    | Name _ _ => exact ssub hE (fun _ _ => rfl) R S h K
    | BinOp _ _ _ _ => exact ssub hE (fun _ _ => rfl) R S h K
    | Subscript _ _ _ => exact ssub hE (fun _ _ => rfl) R S h K
    | Call _ _ _ _ => exact ssub hE (fun _ _ => rfl) R S h K
    | _ => exact False.elim h
  | List es p =>
    refine wpAny_List_spliced (hL c env lm σ _ A E _ s p es h.1 R S h.2 fun ps vs σ₁ h₁ tk₁ hk rs S₁ x₁ hL₁ => ?_)
    refine ⟨by rw [← rs.length, sizeLine_eq]; have := hk.1; omega, ?_⟩
    exact (K.after (tk := tk₁) x₁ hL₁).alloc (tk := tk₁) (s := { s with heap := h₁, toks := tk₁ }) S₁ get_push1 (Nat.le_refl _) (slist_new rs rfl) hk.2
  | Tuple es _ p =>
    refine wpAny_Tuple_spliced (hL c env lm σ _ A E _ s p es h.1 R S h.2 fun ps vs σ₁ h₁ tk₁ hk rs S₁ x₁ hL₁ => ?_)
    refine ⟨by rw [← rs.length, sizeLine_eq]; have := hk.1; omega, ?_⟩
    refine (K.after (tk := tk₁) x₁ hL₁).keeps (tk := tk₁) (s := { s with heap := h₁, toks := tk₁ }) S₁ get_push1 hk.2 (.tup (its := vs.toArray) ⟨_, Heap.get?_push_size _ rfl, rfl, 0, rfl⟩ ?_)
    exact rs.mono fun b o _ e => Heap.get?_push_of_some _ e
  | Dict ks vs p =>
    match ks, vs, h with
    | [], [], h =>
      refine wpAny_Dict_empty (K.alloc S get_push1 (Nat.le_refl _) ?_ h (tk := s.toks))
      exact Heap.get?_push_size _ rfl
    | _ :: _, _, h => exact False.elim h
    | [], _ :: _, h => exact False.elim h
  | ListComp elt gens sc p =>
    match gens, h with
    | [], h => exact False.elim h
    | ⟨t, _, _, _⟩ :: _ :: _, h => cases t <;> exact False.elim h
    | [⟨t, iter, ifs, a⟩], h =>
      cases t with
      | Name x px =>
        obtain ⟨rfl, hok, p', f', h⟩ := h
        cases n with
        | zero => exact False.elim h
        | succ m => exact scompE (IH m (Nat.le_succ _)) hE (hTs m (Nat.le_succ _)) R hok S h K
      | _ => exact False.elim h
  | _ => exact False.elim h
end
end
section
open PySem PySem.W PyProof.Rows PySem.Calls
noncomputable def SS (w : World) (B : Heap) (n : Nat) : Prop := ∀ c env lm σ k A E Q s st, Room A c.d → St w B c env lm σ s.heap → WS n c st lm σ k → KontF w B c env σ s k Q → wpAny (model pw w) A (exec st env) Q E s
section
variable {w : World} {B : Heap} {c : Cx} {env : Env} {lm : LM} {σ σ₁ τ σ' : Sg} {A : Around} {E : Value → Shared → Prop} {s : Shared} {h h₁ h₂ h' : Heap} {tk : Nat} {L I : Addr} {cl : List Addr}

theorem KontF.after {k : Fl → LM → Sg → Prop} {Q : Flow → Shared → Prop} (K : KontF w B c env σ s k Q) (x : Aft w B σ σ₁ env.locals (env.cells.map (·.2)) s.heap h₁) : KontF w B c env σ₁ { s with heap := h₁, toks := tk } k Q :=
  fun fl v lm' σ' h' tk' hk r S x' => K fl v lm' σ' h' tk' hk r S (x.trans x')
theorem KontF.afterE {k : Fl → LM → Sg → Prop} {Q : Flow → Shared → Prop} (K : KontF w B c env σ s k Q) (x : Aft w B σ σ₁ env.locals [] s.heap h₁) : KontF w B c env σ₁ { s with heap := h₁, toks := tk } k Q :=
  KontF.after K (x.weaken fun _ h => nomatch h)
theorem Aft.toS (x : Aft w B σ σ₁ L [] h h₁) : Aft w B σ σ₁ L cl h h₁ := x.weaken fun _ h => nomatch h

theorem St.forget (S : St w B c env lm σ h) (l : sle τ σ) : St w B c env lm τ h :=
  have nn : ∀ a, σ a = none → τ a = none := fun a e => by
    cases q : τ a with
    | none => rfl
    | some o => rw [l a o q] at e; cases e
  ⟨S.eo, S.inv.forget l, S.fr, nn _ S.ok.l, S.ok.lb, S.ok.cb, fun y a e => let ⟨c1, c2⟩ := S.ok.cell y a e; ⟨nn _ c1, c2⟩⟩
theorem sle_hide (iv : PV) (σ : Sg) : sle (hide iv σ) σ := fun a o e => by
  cases iv with
  | ref b =>
    replace e : (if a = b then none else σ a) = some o := e
    by_cases q : a = b
    · rw [if_pos q] at e; cases e
    · rwa [if_neg q] at e
  | _ => exact e
theorem Aft.fromHide {iv : PV} (x : Aft w B (hide iv σ) σ' L cl h h') : Aft w B σ σ' L cl h h' where
  inv := x.inv
  keep := fun b o e cc => x.keep b o e (cc.imp id fun ⟨c1, c2, c3⟩ => ⟨c1, c2, by
    cases q : hide iv σ b with
    | none => rfl
    | some o => rw [sle_hide _ _ _ _ q] at c3; cases c3⟩)
  alive := x.alive
  dom := fun b q => (x.dom b q).imp (fun z => fun e => z (by
    cases q : hide iv σ b with
    | none => rfl
    | some o => rw [sle_hide _ _ _ _ q] at e; cases e)) id

theorem but_imm (hni : ∀ o, h'.get? I = some o → ¬ Imm o) (k : ∀ b o, b ∉ [I] → h'.get? b = some o → h₂.get? b = some o) : ∀ b o, Imm o → h'.get? b = some o → h₂.get? b = some o := fun b o i e => k b o (fun q => by
  rw [List.mem_singleton] at q; subst q; exact hni o e i) e
theorem Aft.but (X : Aft w B τ σ' L cl h₁ h') (hI : h₁.get? I = none) (hBI : B.get? I = none) (hσ : σ' I = none) (hni : ∀ o, h'.get? I = some o → ¬ Imm o) (k : ∀ b o, b ∉ [I] → h'.get? b = some o → h₂.get? b = some o) :
    Aft w B τ σ' L cl h₁ h₂ := by
  have nI : ∀ b o, h₁.get? b = some o → b ∉ [I] := fun b o e q => by rw [List.mem_singleton] at q; rw [q, hI] at e; cases e
  refine ⟨⟨fun b o e => k b o (fun q => by rw [List.mem_singleton] at q; rw [q, hBI] at e; cases e) (X.inv.base b o e), fun a o e => ⟨(X.inv.own a o e).1, ORel.mono (but_imm hni k) (fun ob e' => k a ob (fun q => by rw [List.mem_singleton] at q; rw [q, hσ] at e; cases e) e') (X.inv.own a o e).2⟩⟩,
    fun b o e cc => k b o (nI b o e) (X.keep b o e cc), fun b o e => ?_, X.dom⟩
  obtain ⟨o', e'⟩ := X.alive b o e
  exact ⟨o', k b o' (nI b o e) e'⟩
theorem St.but (S : St w B c env lm σ' h') (hIL : I ≠ env.locals) (hIc : ∀ x a, env.cells.lookup x = some a → a ≠ I) (hI' : Inv w B σ' h₂) (hni : ∀ o, h'.get? I = some o → ¬ Imm o) (k : ∀ b o, b ∉ [I] → h'.get? b = some o → h₂.get? b = some o) : St w B c env lm σ' h₂ := by
  have ki := but_imm hni k
  have nm : ∀ b, b ≠ I → b ∉ [I] := fun b q z => q (List.mem_singleton.mp z)
  refine ⟨S.eo, hI', ?_, S.ok.l, S.ok.lb, S.ok.cb, fun y a e => ?_⟩
  · obtain ⟨m, hn, hr⟩ := S.fr
    refine ⟨m, hn.at' fun o e => k _ o (nm _ (Ne.symm hIL)) e, fun y u e => (hr y u e).imp (fun ⟨a, z, b, d⟩ => ⟨a, z, b, d.mono ki⟩) fun ⟨a, cc, z, b, ⟨o, o1, o2⟩, d⟩ => ⟨a, cc, z, b, ⟨o, k _ _ (nm _ (hIc y cc b)) o1, o2⟩, d.mono ki⟩⟩
  · obtain ⟨c1, c2, v, o, o1, o2⟩ := S.ok.cell y a e
    exact ⟨c1, c2, v, o, k _ _ (nm _ (hIc y a e)) o1, o2⟩

theorem cl_of {a : Addr} (S : St w B c env lm σ h) (ha : a ∈ env.cells.map (·.2)) : σ a = none ∧ ∃ o, h.get? a = some o := by
  obtain ⟨p, hp, rfl⟩ := List.mem_map.mp ha
  obtain ⟨c1, _, v, o, o1, _⟩ := S.ok.cell _ _ (S.eo.mem p hp)
  exact ⟨c1, o, o1⟩

theorem drop_cons {α : Type} {l : List α} {i : Nat} {v : α} (h : l[i]? = some v) : l.drop i = v :: l.drop (i + 1) := by
  obtain ⟨hi, rfl⟩ := List.getElem?_eq_some_iff.mp h
  rw [List.drop_eq_getElem_cons hi]

theorem sfor {n : Nat} (hS : SSS w B n) {x : Str} {px : Pos} {b : List Stmt} {k : Fl → LM → Sg → Prop} {Q : Flow → Shared → Prop} {R : Result → Shared → Prop} {iv : PV} {vs : List PV} {o : Obj} {fp : List Addr} {P : Nat → Value → Prop} {G : Nat → Heap → Prop}
    (Rm : Room A c.d) (hx : c.kind x = some .local) (S : St w B c env lm σ s.heap) (I : Iter w A s.heap.objs.size fp vs B s.heap (s.heap.push o) iv σ P G)
    (h : forW (fun lm' σ' Q' => WSS n c b lm' σ' Q') x vs lm (hide iv σ) k) (K : KontF w B c env σ s k Q) (hR : ∀ f s', Q f s' → R (.ok f) s') :
    codeAny (model pw w) A (.forLoop (.Name x px) (.ref s.heap.objs.size) b [] env) R { s with heap := s.heap.push o } := by
  have nI : s.heap.get? s.heap.objs.size = none := get_size _
  have lL : env.locals < s.heap.objs.size := S.fr.lt
  have hIL : s.heap.objs.size ≠ env.locals := Nat.ne_of_gt lL
  have hIc : ∀ y a, env.cells.lookup y = some a → a ≠ s.heap.objs.size := fun y a e => by
    obtain ⟨_, _, v, o', e', _⟩ := S.ok.cell y a e
    exact Nat.ne_of_lt (Heap.lt_size e')
  have hIcl : s.heap.objs.size ∉ env.cells.map (·.2) := fun q => by
    obtain ⟨p, hp, e⟩ := List.mem_map.mp q
    exact hIc _ _ (S.eo.mem p hp) e
  have hBI : B.get? s.heap.objs.size = none := get_above S.leB
  have S0 := S.forget (sle_hide iv σ)
  have still : ∀ a ∈ fp, a ≠ s.heap.objs.size → ∃ ob, s.heap.get? a = some ob ∧ (Imm ob ∨ (a ≠ env.locals ∧ a ∉ env.cells.map (·.2) ∧ hide iv σ a = none)) := fun a ha hn => by
    obtain ⟨ob, e, hh⟩ := I.still a ha hn
    refine ⟨ob, e, hh.imp id ?_⟩
    rintro ⟨xs, rfl, hs⟩
    refine ⟨fun q => ?_, fun q => ?_, ?_⟩
    · have := S.ok.l; rw [← q, hs] at this; cases this
    · have := (cl_of S q).1; rw [hs] at this; cases this
    · show (if a = a then none else σ a) = none
      rw [if_pos rfl]
  refine codeAny_forLoop (fun m s' => ∃ (i : Nat) (lm' : LM) (σ' : Sg) (h' : Heap) (tk : Nat), m = vs.length - i ∧ i ≤ vs.length ∧ s' = { s with heap := h', toks := tk } ∧ forW (fun lm' σ' Q' => WSS n c b lm' σ' Q') x (vs.drop i) lm' σ' k ∧
    St w B c env lm' σ' h' ∧ Aft w B (hide iv σ) σ' env.locals (env.cells.map (·.2)) s.heap h' ∧ G i h' ∧ σ' s.heap.objs.size = none) ?_ vs.length
    ⟨0, lm, hide iv σ, s.heap.push o, s.toks, rfl, Nat.zero_le _, rfl, h, S0.stepX (Aft.push S0.inv o) (fun o e => Heap.get?_push_of_some _ e), Aft.push S0.inv o, I.zero, S0.inv.none_at nI⟩
  rintro m s' ⟨i, lm', σ', h', tk, rfl, hi, rfl, hf, S', X, hG, hσ⟩
  by_cases hlt : i < vs.length
  · obtain ⟨v, hv⟩ : ∃ v, vs[i]? = some v := ⟨_, List.getElem?_eq_getElem hlt⟩
    rw [drop_cons hv] at hf
    unfold forW at hf
    refine I.walks.item i _ _ _ hlt hG fun u h₂ tk₂ hP hG₂ hk₂ => ?_
    have X₂ := X.but (h₂ := h₂) nI hBI hσ (I.notImm i h' · hG) hk₂
    have S₂ := S'.but hIL hIc X₂.inv (I.notImm i h' · hG) hk₂
    obtain ⟨v', hv', hr⟩ := I.item i u hP
    rw [hv] at hv'; cases hv'
    refine wpAny_assign_Name (sstore (s := { s with heap := h₂, toks := tk₂ }) (.inl hx) S₂ (hr h₂ X₂.imm) fun lm₃ σ₃ h₃ tk₃ hk₃ S₃ X₃ => ?_)
    obtain ⟨rfl, rfl⟩ := hk₃
    refine hS c env _ σ₃ _ A _ _ { s with heap := h₃, toks := tk₃ } b Rm S₃ hf fun fl vfl lm₄ σ₄ h₄ tk₄ hk₄ hfl S₄ X₄ => ?_
    have X24 := X₃.trans X₄
    have X14 := X₂.trans X24
    obtain ⟨oI, eI⟩ := I.there _ _ hG₂
    have hσ₄ : σ₄ s.heap.objs.size = none := X24.domN eI hσ
    have hG₄ : G (i + 1) h₄ := I.walks.frame (i + 1) h₂ h₄ hG₂ fun a ha ob e => by
      by_cases q : a = s.heap.objs.size
      · subst q; exact X24.keep _ ob e (.inr ⟨hIL, hIcl, hσ⟩)
      · obtain ⟨ob', e', hh⟩ := still a ha q
        have := X₂.keep a ob' e' hh
        rw [e] at this; cases this
        exact X14.keep a ob e' hh
    have fin : ∀ fl' lm'' , k fl' lm₄ σ₄ → lm'' = lm₄ → ∀ vfl', FlRel B h₄ fl' vfl' → Q vfl' { s with heap := h₄, toks := tk₄ } := fun fl' lm'' hk' _ vfl' hfl' => K fl' vfl' lm₄ σ₄ h₄ tk₄ hk' hfl' S₄ X14.fromHide
    have again : forW (fun lm' σ' Q' => WSS n c b lm' σ' Q') x (vs.drop (i + 1)) lm₄ σ₄ k → ∃ m, m < vs.length - i ∧ ∃ (i : Nat) (lm' : LM) (σ' : Sg) (h' : Heap) (tk : Nat), m = vs.length - i ∧ i ≤ vs.length ∧ { s with heap := h₄, toks := tk₄ } = { s with heap := h', toks := tk } ∧ forW (fun lm' σ' Q' => WSS n c b lm' σ' Q') x (vs.drop i) lm' σ' k ∧
        St w B c env lm' σ' h' ∧ Aft w B (hide iv σ) σ' env.locals (env.cells.map (·.2)) s.heap h' ∧ G i h' ∧ σ' s.heap.objs.size = none := fun hk' =>
      ⟨vs.length - (i + 1), by omega, i + 1, lm₄, σ₄, h₄, tk₄, rfl, hlt, rfl, hk', S₄, X14, hG₄, hσ₄⟩
    cases hfl with
    | next => exact again hk₄
    | cont => exact again hk₄
    | brk => exact hR _ _ (fin _ _ hk₄ rfl _ .next)
    | ret hr => exact hR _ _ (fin _ _ hk₄ rfl _ (.ret hr))
  · have e : i = vs.length := Nat.le_antisymm hi (Nat.not_lt.mp hlt)
    subst e
    rw [List.drop_length] at hf
    unfold forW at hf
    refine I.walks.done _ _ _ hG fun h₂ tk₂ hk₂ => ?_
    have X₂ := X.but (h₂ := h₂) nI hBI hσ (I.notImm _ h' · hG) hk₂
    have S₂ := S'.but hIL hIc X₂.inv (I.notImm _ h' · hG) hk₂
    exact wpAny_execs_nil (hR _ _ (K .next .next lm' σ' h₂ tk₂ hf .next S₂ X₂.fromHide))
end
end
section
open PySem PySem.W PyProof.Rows PySem.Calls
section
variable {w : World} {B : Heap} {c : Cx} {env : Env} {lm : LM} {σ σ₁ τ σ' : Sg} {A : Around} {E : Value → Shared → Prop} {s : Shared} {h h₁ h₂ h' : Heap} {tk : Nat} {L I : Addr} {cl : List Addr}

theorem sss {n : Nat} (hs : SS w B n) (hss : SSS w B n) : SSS w B (n + 1) := by
  intro c env lm σ k A E Q s body R S h K
  cases body with
  | nil =>
    exact wpAny_execs_nil (K .next .next lm σ s.heap s.toks h .next S (Aft.refl S.inv))
  | cons st r =>
    refine wpAny_execs_cons (hs c env lm σ _ A E _ s st R S h fun fl v lm₁ σ₁ h₁ tk₁ hk hfl S₁ x₁ => ?_)
    cases hfl with
    | next => exact hss c env lm₁ σ₁ k A E Q { s with heap := h₁, toks := tk₁ } r R S₁ hk (K.after x₁)
    | cont => exact K .cont .cont lm₁ σ₁ h₁ tk₁ hk .cont S₁ x₁
    | brk => exact K .brk .brk lm₁ σ₁ h₁ tk₁ hk .brk S₁ x₁
    | ret hr => exact K _ _ lm₁ σ₁ h₁ tk₁ hk (.ret hr) S₁ x₁

theorem swhile {N : Nat} (hT : ∀ m, m ≤ N → ST w B m) (hS : ∀ m, m ≤ N → SSS w B m) {t : Expr} {b : List Stmt} {p : Pos} {k : Fl → LM → Sg → Prop} {Q : Flow → Shared → Prop} {R : Result → Shared → Prop}
    (Rm : Room A c.d) (S : St w B c env lm σ s.heap) (h : WS (N + 1) c (.While t b [] p) lm σ k) (K : KontF w B c env σ s k Q) (hR : ∀ f s', Q f s' → R (.ok f) s') : codeAny (model pw w) A (.whileLoop t b [] env) R s := by
  refine codeAny_whileLoop (fun m s' => ∃ lm' σ' h' tk, m ≤ N + 1 ∧ s' = { s with heap := h', toks := tk } ∧ WS m c (.While t b [] p) lm' σ' k ∧ St w B c env lm' σ' h' ∧ Aft w B σ σ' env.locals (env.cells.map (·.2)) s.heap h') ?_ (N + 1)
    ⟨lm, σ, s.heap, s.toks, Nat.le_refl _, rfl, h, S, Aft.refl S.inv⟩
  rintro m s' ⟨lm', σ', h', tk, hm, rfl, hw, S', X⟩
  cases m with
  | zero => exact False.elim hw
  | succ m =>
    have hm' : m ≤ N := Nat.le_of_succ_le_succ hm
    refine hT m hm' c env lm' σ' _ A _ _ { s with heap := h', toks := tk } t Rm S' hw fun v σ₁ h₁ tk₁ hk S₁ x₁ hL₁ => ?_
    have X₁ := X.trans x₁.toS
    cases v with
    | false =>
      rw [if_neg (by decide)] at hk
      simp only [Bool.false_eq_true, if_false]
      exact wpAny_execs_nil (hR _ _ (K .next .next lm' σ₁ h₁ tk₁ hk .next S₁ X₁))
    | true =>
      rw [if_pos rfl] at hk
      simp only [if_true]
      refine hS m hm' c env lm' σ₁ _ A _ _ { s with heap := h₁, toks := tk₁ } b Rm S₁ hk fun fl v lm₂ σ₂ h₂ tk₂ hk₂ hfl S₂ x₂ => ?_
      have X₂ := X₁.trans x₂
      cases hfl with
      | next => exact ⟨m, Nat.lt_succ_self _, lm₂, σ₂, h₂, tk₂, Nat.le_of_succ_le hm, rfl, hk₂, S₂, X₂⟩
      | cont => exact ⟨m, Nat.lt_succ_self _, lm₂, σ₂, h₂, tk₂, Nat.le_of_succ_le hm, rfl, hk₂, S₂, X₂⟩
      | brk => exact hR _ _ (K .next .next lm₂ σ₂ h₂ tk₂ hk₂ .next S₂ X₂)
      | ret hr => exact hR _ _ (K _ _ lm₂ σ₂ h₂ tk₂ hk₂ (.ret hr) S₂ X₂)

theorem noComp {e : Expr} {t : Option Expr} {l : Nat} (h : isComp e = false) : swapsWith e t l env = pure false := by cases e <;> first | rfl | cases h
theorem swaps_attr {e o : Expr} {m : Str} {p : Pos} {l : Nat} : swapsWith e (some (.Attribute o m p)) l env = pure false := by cases e <;> rfl
theorem swaps_sub {e o i : Expr} {p : Pos} {l : Nat} : swapsWith e (some (.Subscript o i p)) l env = pure false := by cases e <;> rfl
theorem aug_of {i : Expr} (h : isSlice i = false) (ov iv new : Value) : augStore i ov iv new = (do holding [new, ov, iv] (setItem ov iv new); release [new, ov, iv] []; pure .next) := by cases i <;> first | rfl | cases h

theorem we_name_inv {n : Nat} {x : Str} {p : Pos} {k : PV → Sg → Prop} (hx : c.kind x = some .local) (h : WE n c (.Name x p) lm σ k) : ∃ v, lm x = some v ∧ k v σ := by
  cases n with
  | zero => exact False.elim h
  | succ n =>
    replace h : (match lm x with
      | some v => k v σ
      | none => c.kind x = some .globalImplicit ∧ (match glob x with
          | some v => k v σ
          | none => False)) := h
    cases e : lm x with
    | some v => rw [e] at h; exact ⟨v, rfl, h⟩
    | none => rw [e, hx] at h; cases h.1

theorem ss {n : Nat} (IE : ∀ m, m ≤ n → SE w B m) (IT : ∀ m, m ≤ n → ST w B m) (ITs : ∀ m, m ≤ n → STs w B m) (IS : ∀ m, m ≤ n → SSS w B m) (Z : Wf w B) : SS w B (n + 1) := by
  have hE := IE n (Nat.le_refl _)
  have hT := IT n (Nat.le_refl _)
  have hS := IS n (Nat.le_refl _)
  intro c env lm σ k A E Q s st R S h K
  have toF : ∀ (σ₁ : Sg) (s₁ : Shared) (k₁ : LM → Sg → Prop), (∀ lm' σ', k₁ lm' σ' → k .next lm' σ') → KontF w B c env σ₁ s₁ k Q → KontS w B c env σ₁ s₁ k₁ (Q .next) := fun σ₁ s₁ k₁ hk K lm' σ' h' tk h S x => K .next .next lm' σ' h' tk (hk _ _ h) .next S x
  cases st with
  | Return e p =>
    cases e with
    | none => exact wpAny_Return_none (K _ _ lm σ s.heap s.toks h (.ret .none) S (Aft.refl S.inv))
    | some e =>
      exact wpAny_Return_some (hE c env lm σ _ A E _ s e R S h fun pv v σ₁ h₁ tk₁ hk rv S₁ x₁ _ => K _ _ lm σ₁ h₁ tk₁ hk (.ret rv) S₁ x₁.toS)
  | Break p => exact wpAny_Break (K _ _ lm σ s.heap s.toks h .brk S (Aft.refl S.inv))
  | If t a b p =>
    refine wpAny_If (hT c env lm σ _ A E _ s t R S h fun v σ₁ h₁ tk₁ hk S₁ x₁ hL₁ => ?_)
    have K' := K.afterE (tk := tk₁) x₁
    cases v
    · rw [if_neg (by decide)] at hk ⊢
      exact hS c env lm σ₁ k A E Q { s with heap := h₁, toks := tk₁ } b R S₁ hk K'
    · rw [if_pos rfl] at hk ⊢
      exact hS c env lm σ₁ k A E Q { s with heap := h₁, toks := tk₁ } a R S₁ hk K'
  | Expr e p =>
    refine wpAny_Expr (hE c env lm σ _ A E _ s e R S h.2 fun pv v σ₁ h₁ tk₁ hk rv S₁ x₁ hL₁ => ?_) (by unfold interactive; rw [S.eo.fn]; rfl) (noComp h.1)
    cases pv <;> first | exact False.elim hk | (cases rv; exact K .next .next lm σ₁ h₁ tk₁ hk .next S₁ x₁.toS)
  | While t b o p =>
    cases o with
    | nil => exact wpAny_While (swhile (N := n) IT IS R S h K fun f s' hq => hq)
    | cons _ _ => exact False.elim h
  | For t e b o p =>
    cases t with
    | Name x px =>
      cases o with
      | nil =>
        obtain ⟨⟨hsd, hx⟩, h⟩ := h
        have hs : ∀ z, foldedSetIterable e env z = pure z := by
          intro z; cases e <;> first | rfl | cases hsd
        refine wpAny_For (hE c env lm σ _ A E _ s e R S h fun iv v σ₁ h₁ tk₁ hk rv S₁ x₁ hL₁ => ?_) hs
        obtain ⟨vs, e1, e2, hf⟩ := hk
        refine siter (s := { s with heap := h₁, toks := tk₁ }) e1 e2 S₁ rv fun o fp P G I => ?_
        exact sfor (s := { s with heap := h₁, toks := tk₁ }) hS R hx S₁ (I A R.handled) hf (K.afterE (tk := tk₁) x₁) fun f s' hq => hq
      | cons _ _ => exact False.elim h
    | _ => exact False.elim h
  | AugAssign t op e p =>
    cases t with
    | Name x px =>
      obtain ⟨hx, h⟩ := h
      obtain ⟨ov, hov, h⟩ := we_name_inv hx h
      · have hk := S.eo.k x _ hx nofun
        obtain ⟨mm, hn, hr⟩ := S.fr
        rcases hr x ov hov with ⟨h1, u, h2, h3⟩ | ⟨h1 | h1, _⟩
        · refine wpAny_AugAssign_Name (wpAny_loadName_local S.eo.fn h1 hn h2 ?_)
          refine hE c env lm σ _ A E _ s e R S h fun vv vvv σ₄ h₄ tk₄ hk₄ rv S₄ x₄ _ => ?_
          refine sinp (s := { s with heap := h₄, toks := tk₄ }) hk₄ (h3.mono x₄.imm) rv fun u uv tk₅ hu ru => ?_
          refine sstore (s := { s with heap := h₄, toks := tk₅ }) (.inl hx) S₄ ru fun lm₂ σ₂ h₂ tk₂ hk₂ S₂ x₂ => ?_
          obtain ⟨rfl, rfl⟩ := hk₂
          exact K .next .next _ σ₂ h₂ tk₂ hu .next S₂ (x₄.toS.trans x₂)
        · rw [hk] at h1; cases h1
        · rw [hk] at h1; cases h1
    | Subscript o i px =>
      obtain ⟨hi, h⟩ := h
      refine wpAny_AugAssign_SubscriptAny ?_ (aug_of hi)
      refine hE c env lm σ _ A E _ s o R S h fun ov ovv σ₁ h₁ tk₁ hk ro S₁ x₁ _ => ?_
      refine hE c env lm σ₁ _ A E _ { s with heap := h₁, toks := tk₁ } i R S₁ hk fun iv ivv σ₂ h₂ tk₂ hk₂ ri S₂ x₂ _ => ?_
      refine (sitem (A := A) (E := E) (s := { s with heap := h₂, toks := tk₂ }) (value := o) (slice := i) (σ := σ₂) hk₂ S₂ (ro.mono x₂.imm) ri fun old oldv σ₃ h₃ tk₃ hk₃ rold S₃ x₃ _ => ?_).1
      obtain ⟨hk₃, rfl⟩ := hk₃
      refine hE c env lm σ₃ _ A E _ { s with heap := h₃, toks := tk₃ } e R S₃ hk₃ fun vv vvv σ₄ h₄ tk₄ hk₄ rv S₄ x₄ _ => ?_
      refine sinp (s := { s with heap := h₄, toks := tk₄ }) hk₄ (rold.mono x₄.imm) rv fun u uv tk₅ hu ru => ?_
      refine ssetitem (d := c.d) (s := { s with heap := h₄, toks := tk₅ }) hu R S₄ (((ro.mono x₂.imm).mono x₃.imm).mono x₄.imm) ((ri.mono x₃.imm).mono x₄.imm) ru fun σ₆ h₆ tk₆ hk₆ S₆ x₆ => ?_
      exact K .next .next lm σ₆ h₆ tk₆ hk₆ .next S₆ ((((x₁.trans x₂).trans x₃).trans x₄).trans x₆).toS
    | _ => exact False.elim h
  | Assign ts e p =>
    match ts, h with
    | [], h => exact False.elim h
    | t :: _ :: _, h => cases t <;> exact False.elim h
    | [t], h =>
    cases t with
    | Attribute o m px =>
      refine plainObj_wpAny_Assign_Attribute ?_ swaps_attr
      refine hE c env lm σ _ A E _ s e R S h fun pv v σ₁ h₁ tk₁ hk rv S₁ x₁ hL₁ => ?_
      refine hE c env lm σ₁ _ A E _ { s with heap := h₁, toks := tk₁ } o R S₁ hk fun ov ovv σ₂ h₂ tk₂ hk₂ ro S₂ x₂ _ => ?_
      refine ssetattr (s := { s with heap := h₂, toks := tk₂ }) Z hk₂ S₂ ro (rv.mono x₂.imm) fun σ₃ h₃ tk₃ hk₃ S₃ x₃ => ?_
      exact K .next .next lm σ₃ h₃ tk₃ hk₃ .next S₃ ((x₁.trans x₂).trans x₃).toS
    | Subscript o i px =>
      refine wpAny_Assign_Subscript ?_ swaps_sub
      refine hE c env lm σ _ A E _ s e R S h fun pv v σ₁ h₁ tk₁ hk rv S₁ x₁ hL₁ => ?_
      refine hE c env lm σ₁ _ A E _ { s with heap := h₁, toks := tk₁ } o R S₁ hk fun ov ovv σ₂ h₂ tk₂ hk₂ ro S₂ x₂ _ => ?_
      refine hE c env lm σ₂ _ A E _ { s with heap := h₂, toks := tk₂ } i R S₂ hk₂ fun iv ivv σ₃ h₃ tk₃ hk₃ ri S₃ x₃ _ => ?_
      refine ssetitem (d := c.d) (s := { s with heap := h₃, toks := tk₃ }) hk₃ R S₃ (ro.mono x₃.imm) ri ((rv.mono x₂.imm).mono x₃.imm) fun σ₆ h₆ tk₆ hk₆ S₆ x₆ => ?_
      exact K .next .next lm σ₆ h₆ tk₆ hk₆ .next S₆ (((x₁.trans x₂).trans x₃).trans x₆).toS
    | Name x px =>
      by_cases hc : isComp e = true
      · cases e with
        | ListComp elt gens sc q =>
          match gens, h with
          | [], h => exact absurd hc (by rw [h.1.1]; decide)
          | ⟨t, _, _, _⟩ :: _ :: _, h => cases t <;> exact absurd hc (by rw [h.1.1]; decide)
          | [⟨t, iter, ifs, a⟩], h =>
            cases t with
            | Name y py =>
              obtain ⟨rfl, ⟨h1, h2, h3⟩, p', f', h⟩ := h
              cases n with
              | zero => exact False.elim h
              | succ m => exact scompS (IE m (Nat.le_succ _)) hE (ITs m (Nat.le_succ _)) R h1 h2 h3 S h (toF σ s (fun lm' σ' => k .next lm' σ') (fun _ _ h => h) K)
            | _ => exact absurd hc (by rw [h.1.1]; decide)
        | _ => exact absurd hc (by rw [h.1.1]; decide)
      · have hc : isComp e = false := by simpa using hc
        have h' : (isComp e = false ∧ (c.kind x = some .local ∨ c.kind x = some .cell)) ∧ WE n c e lm σ fun v σ₁ => k .next (upd lm x v) σ₁ := by
          cases e <;> first | exact h | cases hc
        refine wpAny_Assign_Name ?_ (noComp hc)
        refine hE c env lm σ _ A E _ s e R S h'.2 fun pv v σ₁ h₁ tk₁ hk rv S₁ x₁ hL₁ => ?_
        refine sstore (s := { s with heap := h₁, toks := tk₁ }) h'.1.2 S₁ rv fun lm₂ σ₂ h₂ tk₂ hk₂ S₂ x₂ => ?_
        obtain ⟨rfl, rfl⟩ := hk₂
        exact K .next .next _ σ₂ h₂ tk₂ hk .next S₂ (x₁.toS.trans x₂)
    | _ => exact False.elim h
  | _ => exact False.elim h

structure All (w : World) (B : Heap) (n : Nat) : Prop where
  e : SE w B n
  t : ST w B n
  ts : STs w B n
  bo : SBo w B n
  tb : STb w B n
  l : SL w B n
  cf : SCf w B n
  ca : SCa w B n
  me : SMe w B n
  s : SS w B n
  ss : SSS w B n
theorem all0 : All w B 0 where
  e := fun c env lm σ k A E Q s e _ _ h => False.elim h
  t := fun c env lm σ k A E Q s e _ _ h => False.elim h
  ts := fun c env lm σ k A E Q s e _ _ h => False.elim h
  bo := fun c env lm σ k A E Q s p op es _ _ h => False.elim h
  tb := fun c env lm σ k A E Q s op es _ _ h => False.elim h
  l := fun c env lm σ k A E Q s p es _ _ _ h => False.elim h
  cf := fun c A R s a vs us σ k _ _ _ _ h => False.elim h
  ca := fun c env lm σ k A E Q s fv fvv vs us _ _ _ _ h => False.elim h
  me := fun c env lm σ k A E Q s f o ov vs us _ _ _ _ h => False.elim h
  s := fun c env lm σ k A E Q s e _ _ h => False.elim h
  ss := fun c env lm σ k A E Q s e _ _ h => False.elim h
theorem allN_ (Z : Wf w B) : ∀ n, All w B n := by
  intro n
  induction n using Nat.strongRecOn with
  | ind n IH =>
    cases n with
    | zero => exact all0
    | succ n =>
      have I := IH n (Nat.lt_succ_self _)
      have J : ∀ m, m ≤ n → All w B m := fun m hm => IH m (Nat.lt_succ_of_le hm)
      have hE := se Z (fun m hm => (J m hm).e) (fun m hm => (J m hm).t) (fun m hm => (J m hm).ts) I.bo I.l I.ca I.me
      exact ⟨hE, st I.e I.t I.tb, sts I.t, sbo I.e I.bo, stb I.t I.tb, sl I.e I.l, scf Z I.ss, sca Z I.cf, sme Z I.cf,
        ss (fun m hm => (J m hm).e) (fun m hm => (J m hm).t) (fun m hm => (J m hm).ts) (fun m hm => (J m hm).ss) Z, sss I.s I.ss⟩
end
end
section
open PySem PySem.W PyProof.Rows
noncomputable def thenW (n : Nat) (c : Cx) (r : List Stmt) (Q : Fl → LM → Sg → Prop) : Fl → LM → Sg → Prop := fun fl lm σ => match fl with
  | .next => WSS n c r lm σ Q
  | fl => Q fl lm σ
noncomputable def retW (Q : PV → Sg → Prop) : Fl → LM → Sg → Prop := fun fl _ σ' => ∃ τ, sle τ σ' ∧ (match fl with
  | .ret v => Q v τ
  | .next => Q .none τ
  | _ => False)
noncomputable def turnW (n : Nat) (c : Cx) (st : Stmt) (Q : Fl → LM → Sg → Prop) : Fl → LM → Sg → Prop := fun fl lm' σ' => match fl with
  | .next | .cont => WS n c st lm' σ' Q
  | .brk => Q .next lm' σ'
  | .ret u => Q (.ret u) lm' σ'
noncomputable def freeLM (sc : Scope) (lm : LM) : LM := fun y => if sc.names.lookup y = some .free then lm y else none
theorem freeLM_none {sc : Scope} {lm : LM} {y : Str} (h : decide (sc.names.lookup y = some .free) = false) : freeLM sc lm y = none := if_neg (of_decide_eq_false h)
theorem freeLM_some {sc : Scope} {lm : LM} {y : Str} {r : Option PV} (h : decide (sc.names.lookup y = some .free) = true) (e : lm y = r) : freeLM sc lm y = r := (if_pos (of_decide_eq_true h)).trans e
noncomputable def notW (Q : PV → Sg → Prop) : PV → Sg → Prop := fun v σ => match v with
  | .bool b => Q (.bool (!b)) σ
  | _ => False
noncomputable def boolW (T : Bool → Sg → Prop) : PV → Sg → Prop := fun v σ => match v with
  | .bool b => T b σ
  | _ => False
noncomputable def boW (n : Nat) (c : Cx) (op : BoolOp) (r : List Expr) (lm : LM) (Q : PV → Sg → Prop) : PV → Sg → Prop := fun v σ₁ => match v, op with
  | .bool b, .And => if b = true then WBo n c op r lm σ₁ Q else Q (.bool false) σ₁
  | .bool b, .Or => if b = true then Q (.bool true) σ₁ else WBo n c op r lm σ₁ Q
  | _, _ => False
noncomputable def tbW (n : Nat) (c : Cx) (op : BoolOp) (r : List Expr) (lm : LM) (T : Bool → Sg → Prop) : Bool → Sg → Prop := fun b σ₁ => match op with
  | .And => if b = true then WTb n c op r lm σ₁ T else T false σ₁
  | .Or => if b = true then T true σ₁ else WTb n c op r lm σ₁ T
noncomputable def uptoW (ov : PV) (Q : PV → Sg → Prop) : PV → Sg → Prop := fun uv σ => match uv with
  | .int h => WCut ov none (some h) σ Q
  | _ => False
noncomputable def cutW (ov lv : PV) (Q : PV → Sg → Prop) : PV → Sg → Prop := fun uv σ => match lv, uv with
  | .int g, .int h => WCut ov (some g) (some h) σ Q
  | _, _ => False
noncomputable def dropW (F : Fl → LM → Sg → Prop) (lm : LM) : PV → Sg → Prop := fun v σ => match v with
  | .none | .int _ | .bool _ | .str _ => F .next lm σ
  | _ => False
section
variable {n d : Nat} {c : Cx} {lm : LM} {σ σ' τ : Sg} {p q : Pos} {Q : PV → Sg → Prop} {F : Fl → LM → Sg → Prop} {T : Bool → Sg → Prop} {G : List PV → Sg → Prop} {k : PV → Prop}

theorem sle_refl (σ : Sg) : sle σ σ := fun _ _ e => e
theorem sle.trans {a b c : Sg} (x : sle a b) (y : sle b c) : sle a c := fun i o e => y i o (x i o e)
theorem sle_sset {σ τ : Sg} {a : Addr} {o : AO} (h : σ a = none) (l : sle σ τ) : sle σ (sset τ a o) := fun b u e => by
  unfold sset
  split
  · rename_i q; rw [q, h] at e; cases e
  · exact l b u e
theorem upd_hit {x : Str} {v : PV} : upd lm x v x = some v := if_pos rfl
theorem upd_miss {x y : Str} {v : PV} (h : decide (y = x) = false) {r : Option PV} (e : lm y = r) : upd lm x v y = r := (if_neg (of_decide_eq_false h)).trans e
theorem sset_hit {a : Addr} {o : AO} : sset σ a o a = some o := if_pos rfl
theorem sset_miss {a b : Addr} {o : AO} {r : Option AO} (h : b ≠ a) (e : σ b = r) : sset σ a o b = r := (if_neg h).trans e

/-- expressions -/
theorem we_name {x : Str} {v : PV} (e : lm x = some v) (h : Q v σ) : WE (n + 1) c (.Name x p) lm σ Q := by
  show (match lm x with
      | some v => Q v σ
      | none => c.kind x = some .globalImplicit ∧ (match glob x with
          | some v => Q v σ
          | none => False))
  rw [e]; exact h
theorem we_glob {x : Str} {v : PV} (e : lm x = none) (hk : c.kind x = some .globalImplicit) (hg : glob x = some v) (h : Q v σ) : WE (n + 1) c (.Name x p) lm σ Q := by
  show (match lm x with
      | some v => Q v σ
      | none => c.kind x = some .globalImplicit ∧ (match glob x with
          | some v => Q v σ
          | none => False))
  rw [e, hg]; exact ⟨hk, h⟩
theorem we_int {i : Int} {j : Nat} (h : Q (.int i) σ) : WE (n + 1) c (.Constant (.int i) j p) lm σ Q := h
theorem we_str {s : Str} {j : Nat} (h : Q (.str s) σ) : WE (n + 1) c (.Constant (.str s) j p) lm σ Q := h
theorem we_bool {b : Bool} {j : Nat} (h : Q (.bool b) σ) : WE (n + 1) c (.Constant (.bool b) j p) lm σ Q := h
theorem we_none {j : Nat} (h : Q .none σ) : WE (n + 1) c (.Constant .none j p) lm σ Q := h
theorem we_boolop {op : BoolOp} {es : List Expr} (h : WBo n c op es lm σ Q) : WE (n + 1) c (.BoolOp op es p) lm σ Q := h
theorem we_not {e : Expr} (h : WE n c e lm σ (notW Q)) : WE (n + 1) c (.UnaryOp .Not e p) lm σ Q := h
theorem not_done {b : Bool} (h : Q (.bool (!b)) σ) : notW Q (.bool b) σ := h
theorem we_usub_int {i : Int} {j : Nat} (h : Q (.int (-i)) σ) : WE (n + 1 + 1) c (.UnaryOp .USub (.Constant (.int i) j q) p) lm σ Q := h
theorem we_bin {l r : Expr} {op : Operator} (h : WE n c l lm σ fun a σ₁ => WE n c r lm σ₁ fun b σ₂ => WBin op a b fun v => Q v σ₂) : WE (n + 1) c (.BinOp l op r p) lm σ Q := h
theorem we_cmp {l r : Expr} {op : CmpOp} (h0 : isSetD r = false) (h : WE n c l lm σ fun a σ₁ => WE n c r lm σ₁ fun b σ₂ => WCmp op a b σ₂ fun v => Q (.bool v) σ₂) : WE (n + 1) c (.Compare l [op] [r] p) lm σ Q := ⟨h0, h⟩
theorem we_ifexp {t a b : Expr} (h : WT n c t lm σ fun v σ₁ => if v = true then WE n c a lm σ₁ Q else WE n c b lm σ₁ Q) : WE (n + 1) c (.IfExp t a b p) lm σ Q := h
theorem we_callM {o : Expr} {m : Str} {ap : Pos} {args : List Expr} (h0 : okM o args ap p = true) (h : WE n c o lm σ fun ov σ₁ => WGet ov m σ₁ fun f => isMet f = true ∧ WL n c args lm σ₁ fun vs σ₂ => WMe n c f ov vs σ₂ Q) : WE (n + 1) c (.Call (.Attribute o m ap) args [] p) lm σ Q := ⟨h0, h⟩
theorem we_callN {x : Str} {args : List Expr} (h0 : okArgs args = true) (h : WE n c (.Name x q) lm σ fun fv σ₁ => isFun fv = true ∧ WL n c args lm σ₁ fun vs σ₂ => WCa n c fv vs σ₂ Q) : WE (n + 1) c (.Call (.Name x q) args [] p) lm σ Q := ⟨h0, h⟩
theorem we_attr {o : Expr} {m : Str} (h0 : isCall o = false) (h : WE n c o lm σ fun ov σ₁ => WAttr ov m σ₁ fun v => Q v σ₁) : WE (n + 1) c (.Attribute o m p) lm σ Q := ⟨h0, h⟩
theorem we_upto {o u : Expr} (h : WE n c o lm σ fun ov σ₁ => WE n c u lm σ₁ (uptoW ov Q)) : WE (n + 1) c (.Subscript o (.Slice none (some u) none q) p) lm σ Q := h
theorem upto_done {ov : PV} {i : Int} (h : WCut ov none (some i) σ Q) : uptoW ov Q (.int i) σ := h
theorem we_cut {o l u : Expr} (h : WE n c o lm σ fun ov σ₁ => WE n c l lm σ₁ fun lv σ₂ => WE n c u lm σ₂ (cutW ov lv Q)) : WE (n + 1) c (.Subscript o (.Slice (some l) (some u) none q) p) lm σ Q := h
theorem cut_done {ov : PV} {i j : Int} (h : WCut ov (some i) (some j) σ Q) : cutW ov (.int i) Q (.int j) σ := h
theorem we_subC {o : Expr} {a : Const} {b : Nat} (h : WE n c o lm σ fun ov σ₁ => WE n c (.Constant a b q) lm σ₁ fun iv σ₂ => WItem ov iv σ₂ fun v => Q v σ₂) : WE (n + 1) c (.Subscript o (.Constant a b q) p) lm σ Q := h
theorem we_subN {o : Expr} {x : Str} (h : WE n c o lm σ fun ov σ₁ => WE n c (.Name x q) lm σ₁ fun iv σ₂ => WItem ov iv σ₂ fun v => Q v σ₂) : WE (n + 1) c (.Subscript o (.Name x q) p) lm σ Q := h
theorem we_subB {o a b : Expr} {op : Operator} (h : WE n c o lm σ fun ov σ₁ => WE n c (.BinOp a op b q) lm σ₁ fun iv σ₂ => WItem ov iv σ₂ fun v => Q v σ₂) : WE (n + 1) c (.Subscript o (.BinOp a op b q) p) lm σ Q := h
theorem we_subS {o a b : Expr} (h : WE n c o lm σ fun ov σ₁ => WE n c (.Subscript a b q) lm σ₁ fun iv σ₂ => WItem ov iv σ₂ fun v => Q v σ₂) : WE (n + 1) c (.Subscript o (.Subscript a b q) p) lm σ Q := h
theorem we_subK {o a : Expr} {b : List Expr} {d : List Keyword} (h : WE n c o lm σ fun ov σ₁ => WE n c (.Call a b d q) lm σ₁ fun iv σ₂ => WItem ov iv σ₂ fun v => Q v σ₂) : WE (n + 1) c (.Subscript o (.Call a b d q) p) lm σ Q := h
theorem we_list {es : List Expr} (h0 : noStar es = true) (h : WL n c es lm σ fun vs σ₁ => vs.length ≤ 1000000 ∧ ∀ a, σ₁ a = none → Q (.ref a) (sset σ₁ a (.list vs))) : WE (n + 1) c (.List es p) lm σ Q := ⟨h0, h⟩
theorem we_tuple {es : List Expr} {j : Nat} (h0 : noStar es = true) (h : WL n c es lm σ fun vs σ₁ => vs.length ≤ 1000000 ∧ Q (.tup vs) σ₁) : WE (n + 1) c (.Tuple es j p) lm σ Q := ⟨h0, h⟩
theorem we_dict (h : ∀ a, σ a = none → Q (.ref a) (sset σ a .edict)) : WE (n + 1) c (.Dict [] [] p) lm σ Q := h
theorem we_comp {elt iter : Expr} {x : Str} {ifs : List Expr} {sc : Scope} (f : PV → Bool) (g : PV → PV) (h1 : isSetD iter = false) (h2 : okLc c.kind sc x = true) (h : WE n c iter lm σ fun iv σ₁ => WLc n c elt x ifs sc lm iv f g σ₁ Q) :
    WE (n + 1) c (.ListComp elt [⟨.Name x p, iter, ifs, 0⟩] sc q) lm σ Q := ⟨rfl, ⟨h1, h2⟩, f, g, h⟩
theorem wlc {elt : Expr} {x : Str} {ifs : List Expr} {sc : Scope} {iv : PV} {f : PV → Bool} {g : PV → PV} (vs : List PV) (h1 : items iv σ = some vs) (h2 : vs.length ≤ 1000000) (h3 : vs.all isSI = true)
    (h4 : ∀ v ∈ vs, WTs n ⟨fun y => sc.names.lookup y, c.d⟩ ifs (upd (freeLM sc lm) x v) noSg fun b _ => b = f v)
    (h5 : ∀ v ∈ vs, f v = true → WE n ⟨fun y => sc.names.lookup y, c.d⟩ elt (upd (freeLM sc lm) x v) noSg fun u _ => u = g v ∧ isSI u = true)
    (h6 : ∀ a, σ a = none → Q (.ref a) (sset σ a (.list ((vs.filter f).map g)))) : WLc (n + 1) c elt x ifs sc lm iv f g σ Q := ⟨vs, h1, h2, h3, h4, h5, h6⟩

/-- tests -/
theorem wt_boolop {op : BoolOp} {es : List Expr} (h : WTb n c op es lm σ T) : WT (n + 1) c (.BoolOp op es p) lm σ T := h
theorem wt_not {e : Expr} (h : WT n c e lm σ fun b σ₁ => T (!b) σ₁) : WT (n + 1) c (.UnaryOp .Not e p) lm σ T := h
theorem wt_cmp {l r : Expr} {op : CmpOp} (h0 : isSetD r = false) (h : WE n c l lm σ fun a σ₁ => WE n c r lm σ₁ fun b σ₂ => WCmp op a b σ₂ fun v => T v σ₂) : WT (n + 1) c (.Compare l [op] [r] p) lm σ T := ⟨h0, h⟩
theorem wt_name {x : Str} (h : WE n c (.Name x p) lm σ (boolW T)) : WT (n + 1) c (.Name x p) lm σ T := h
theorem wt_const {a : Const} {j : Nat} (h : WE n c (.Constant a j p) lm σ (boolW T)) : WT (n + 1) c (.Constant a j p) lm σ T := h
theorem wt_call {a : Expr} {b : List Expr} {e : List Keyword} (h : WE n c (.Call a b e p) lm σ (boolW T)) : WT (n + 1) c (.Call a b e p) lm σ T := h
theorem bool_done {b : Bool} (h : T b σ) : boolW T (.bool b) σ := h
theorem wbo_one {op : BoolOp} {e : Expr} (h : WE n c e lm σ Q) : WBo (n + 1) c op [e] lm σ Q := h
theorem wbo_cons {op : BoolOp} {e e' : Expr} {r : List Expr} (h : WE n c e lm σ (boW n c op (e' :: r) lm Q)) : WBo (n + 1) c op (e :: e' :: r) lm σ Q := h
theorem bo_and {b : Bool} {r : List Expr} (h1 : b = true → WBo n c .And r lm σ Q) (h2 : b = false → Q (.bool false) σ) : boW n c .And r lm Q (.bool b) σ := by
  cases b
  · exact h2 rfl
  · exact h1 rfl
theorem bo_or {b : Bool} {r : List Expr} (h1 : b = true → Q (.bool true) σ) (h2 : b = false → WBo n c .Or r lm σ Q) : boW n c .Or r lm Q (.bool b) σ := by
  cases b
  · exact h2 rfl
  · exact h1 rfl
theorem wtb_andN (h : T true σ) : WTb (n + 1) c .And [] lm σ T := h
theorem wtb_orN (h : T false σ) : WTb (n + 1) c .Or [] lm σ T := h
theorem wtb_cons {op : BoolOp} {e : Expr} {r : List Expr} (h : WT n c e lm σ (tbW n c op r lm T)) : WTb (n + 1) c op (e :: r) lm σ T := h
theorem tb_and {b : Bool} {r : List Expr} (h1 : b = true → WTb n c .And r lm σ T) (h2 : b = false → T false σ) : tbW n c .And r lm T b σ := by
  cases b
  · exact h2 rfl
  · exact h1 rfl
theorem tb_or {b : Bool} {r : List Expr} (h1 : b = true → T true σ) (h2 : b = false → WTb n c .Or r lm σ T) : tbW n c .Or r lm T b σ := by
  cases b
  · exact h2 rfl
  · exact h1 rfl
theorem wif {b : Bool} {X Y : Prop} (h1 : b = true → X) (h2 : b = false → Y) : if b = true then X else Y := by
  cases b
  · exact h2 rfl
  · exact h1 rfl
theorem wif_t {X Y : Prop} (h : X) : if true = true then X else Y := by rw [if_pos rfl]; exact h
theorem wif_f {X Y : Prop} (h : Y) : if false = true then X else Y := by rw [if_neg (by decide)]; exact h
theorem wts_nil (h : T true σ) : WTs (n + 1) c [] lm σ T := h
theorem wts_one {e : Expr} (h : WT n c e lm σ T) : WTs (n + 1) c [e] lm σ T := h

/-- arguments, calls -/
theorem wl_nil (h : G [] σ) : WL (n + 1) c [] lm σ G := h
theorem wl_cons {e : Expr} {r : List Expr} (h : WE n c e lm σ fun v σ₁ => WL n c r lm σ₁ fun vs σ₂ => G (v :: vs) σ₂) : WL (n + 1) c (e :: r) lm σ G := h
theorem wca_fun {id : String} {vs : List PV} (h : WFun id vs σ Q) : WCa (n + 1) c (.con (.builtin id)) vs σ Q := h
theorem wca_typ {id : String} {vs : List PV} (h : WTyp id vs σ Q) : WCa (n + 1) c (.con (.type id)) vs σ Q := h
theorem wca_def {a : Addr} {vs : List PV} (e : initAt a = none) (h : WCf n c a vs σ Q) : WCa (n + 1) c (.ref a) vs σ Q := by
  show (match initAt a with
        | some fi => ∀ x dx, x ≠ dx → σ x = none → σ dx = none → WCf n c fi (.ref x :: vs) (sset (sset σ dx (.flds [])) x (.inst a dx)) fun v σ' => v = .none ∧ Q (.ref x) σ'
        | none => WCf n c a vs σ Q)
  rw [e]; exact h
theorem wca_cls {a fi : Addr} {vs : List PV} (e : initAt a = some fi) (h : ∀ x dx, x ≠ dx → σ x = none → σ dx = none → WCf n c fi (.ref x :: vs) (sset (sset σ dx (.flds [])) x (.inst a dx)) fun v σ' => v = .none ∧ Q (.ref x) σ') : WCa (n + 1) c (.ref a) vs σ Q := by
  show (match initAt a with
        | some fi => ∀ x dx, x ≠ dx → σ x = none → σ dx = none → WCf n c fi (.ref x :: vs) (sset (sset σ dx (.flds [])) x (.inst a dx)) fun v σ' => v = .none ∧ Q (.ref x) σ'
        | none => WCf n c a vs σ Q)
  rw [e]; exact h
theorem wme_def {f : Addr} {o : PV} {vs : List PV} (h : WCf n c f (o :: vs) σ Q) : WMe (n + 1) c (.inl f) o vs σ Q := h
theorem wme_fun {id : String} {o : PV} {vs : List PV} (h : WMet id o vs σ Q) : WMe (n + 1) c (.inr id) o vs σ Q := h
theorem wcf {kind : Str → Option NameKind} {a : Addr} {vs : List PV} {f : Fn} {lm : LM} (e1 : fnAt a = some f) (e2 : bindF f vs = some lm) (h : WSS n ⟨f.kind, d⟩ f.body lm σ (retW Q)) : WCf (n + 1) ⟨kind, d + 1⟩ a vs σ Q := by
  show (match fnAt a, d + 1 with
      | some f, d + 1 => (match bindF f vs with
          | some lm => WSS n ⟨f.kind, d⟩ f.body lm σ fun fl _ σ' => ∃ τ, sle τ σ' ∧ (match fl with
              | .ret v => Q v τ
              | .next => Q .none τ
              | _ => False)
          | none => False)
      | _, _ => False)
  rw [e1]
  show (match bindF f vs with
          | some lm => WSS n ⟨f.kind, d⟩ f.body lm σ fun fl _ σ' => ∃ τ, sle τ σ' ∧ (match fl with
              | .ret v => Q v τ
              | .next => Q .none τ
              | _ => False)
          | none => False)
  rw [e2]; exact h

theorem and_fun {v : PV} {X : Prop} (h : isFun v = true) (x : X) : isFun v = true ∧ X := ⟨h, x⟩
theorem and_met {v : Addr ⊕ String} {X : Prop} (h : isMet v = true) (x : X) : isMet v = true ∧ X := ⟨h, x⟩
/-- statements -/
theorem ws_cons {st : Stmt} {r : List Stmt} (h : WS n c st lm σ (thenW n c r F)) : WSS (n + 1) c (st :: r) lm σ F := h
theorem ws_nil (h : F .next lm σ) : WSS (n + 1) c [] lm σ F := h
theorem then_next {r : List Stmt} (h : WSS n c r lm σ F) : thenW n c r F .next lm σ := h
theorem then_ret {r : List Stmt} {v : PV} (h : F (.ret v) lm σ) : thenW n c r F (.ret v) lm σ := h
theorem then_brk {r : List Stmt} (h : F .brk lm σ) : thenW n c r F .brk lm σ := h
theorem then_cont {r : List Stmt} (h : F .cont lm σ) : thenW n c r F .cont lm σ := h
theorem ret_same {v : PV} (h : Q v σ) : retW Q (.ret v) lm σ := ⟨σ, sle_refl σ, h⟩
theorem ret_less {v : PV} (τ : Sg) (l : sle τ σ) (h : Q v τ) : retW Q (.ret v) lm σ := ⟨τ, l, h⟩
theorem end_same (h : Q .none σ) : retW Q .next lm σ := ⟨σ, sle_refl σ, h⟩
theorem ws_ret {e : Expr} (h : WE n c e lm σ fun v σ₁ => F (.ret v) lm σ₁) : WS (n + 1) c (.Return (some e) p) lm σ F := h
theorem ws_ret0 (h : F (.ret .none) lm σ) : WS (n + 1) c (.Return none p) lm σ F := h
theorem ws_brk (h : F .brk lm σ) : WS (n + 1) c (.Break p) lm σ F := h
theorem ws_set {x : Str} {e : Expr} (h0 : isComp e = false) (hk : c.kind x = some .local) (h : WE n c e lm σ fun v σ₁ => F .next (upd lm x v) σ₁) : WS (n + 1) c (.Assign [.Name x p] e q) lm σ F := by
  cases e <;> first | exact ⟨⟨h0, .inl hk⟩, h⟩ | cases h0
theorem ws_setK {x : Str} {e : Expr} (h0 : isComp e = false) (hk : c.kind x = some .cell) (h : WE n c e lm σ fun v σ₁ => F .next (upd lm x v) σ₁) : WS (n + 1) c (.Assign [.Name x p] e q) lm σ F := by
  cases e <;> first | exact ⟨⟨h0, .inr hk⟩, h⟩ | cases h0
theorem ws_setC {elt iter : Expr} {x y : Str} {ifs : List Expr} {sc : Scope} {p₁ p₂ p₃ p₄ : Pos} (f : PV → Bool) (g : PV → PV) (h1 : isSetD iter = false) (h2 : okLc c.kind sc y = true) (h3 : c.kind x = some .local) (h4 : (p₁.line == p₃.line && !(sc.names.any fun z => z.1 == x && (z.2 == .local || z.2 == .cell))) = true)
    (h : WE n c iter lm σ fun iv σ₁ => WLc n c elt y ifs sc lm iv f g σ₁ fun v σ₂ => F .next (upd lm x v) σ₂) : WS (n + 1) c (.Assign [.Name x p₁] (.ListComp elt [⟨.Name y p₂, iter, ifs, 0⟩] sc p₃) p₄) lm σ F := ⟨rfl, ⟨⟨h1, h2⟩, h3, h4⟩, f, g, h⟩
theorem ws_setA {o e : Expr} {m : Str} (h : WE n c e lm σ fun v σ₁ => WE n c o lm σ₁ fun ov σ₂ => WSetAttr ov m v σ₂ fun σ₃ => F .next lm σ₃) : WS (n + 1) c (.Assign [.Attribute o m p] e q) lm σ F := h
theorem ws_setI {o i e : Expr} (h : WE n c e lm σ fun v σ₁ => WE n c o lm σ₁ fun ov σ₂ => WE n c i lm σ₂ fun iv σ₃ => WSetItem ov iv v σ₃ fun σ₄ => F .next lm σ₄) : WS (n + 1) c (.Assign [.Subscript o i p] e q) lm σ F := h
theorem ws_aug {x : Str} {op : Operator} {e : Expr} (h0 : c.kind x = some .local) (h : WE n c (.Name x p) lm σ fun o σ₁ => WE n c e lm σ₁ fun v σ₂ => WBin op o v fun u => F .next (upd lm x u) σ₂) : WS (n + 1) c (.AugAssign (.Name x p) op e q) lm σ F := ⟨h0, h⟩
theorem ws_augI {o i e : Expr} {op : Operator} (h0 : isSlice i = false) (h : WE n c o lm σ fun ov σ₁ => WE n c i lm σ₁ fun iv σ₂ => WItem ov iv σ₂ fun old => WE n c e lm σ₂ fun v σ₃ => WBin op old v fun u => WSetItem ov iv u σ₃ fun σ₄ => F .next lm σ₄) : WS (n + 1) c (.AugAssign (.Subscript o i p) op e q) lm σ F := ⟨h0, h⟩
theorem ws_if {t : Expr} {a b : List Stmt} (h : WT n c t lm σ fun v σ₁ => if v = true then WSS n c a lm σ₁ F else WSS n c b lm σ₁ F) : WS (n + 1) c (.If t a b p) lm σ F := h
theorem ws_for {x : Str} {e : Expr} {b : List Stmt} (h1 : isSetD e = false) (h2 : c.kind x = some .local) (h : WE n c e lm σ fun iv σ₁ => ∃ vs, items iv σ₁ = some vs ∧ vs.length ≤ 1000000 ∧ forW (fun lm' σ' Q' => WSS n c b lm' σ' Q') x vs lm (hide iv σ₁) F) :
    WS (n + 1) c (.For (.Name x p) e b [] q) lm σ F := ⟨⟨h1, h2⟩, h⟩
theorem ws_while {t : Expr} {b : List Stmt} (h : WT n c t lm σ fun v σ₁ => if v = true then WSS n c b lm σ₁ (turnW n c (.While t b [] p) F) else F .next lm σ₁) : WS (n + 1) c (.While t b [] p) lm σ F := h
theorem turn_next {st : Stmt} (h : WS n c st lm σ F) : turnW n c st F .next lm σ := h
theorem turn_brk {st : Stmt} (h : F .next lm σ) : turnW n c st F .brk lm σ := h
theorem turn_ret {st : Stmt} {v : PV} (h : F (.ret v) lm σ) : turnW n c st F (.ret v) lm σ := h
theorem ws_expr {e : Expr} (h0 : isComp e = false) (h : WE n c e lm σ (dropW F lm)) : WS (n + 1) c (.Expr e p) lm σ F := ⟨h0, h⟩
theorem drop_none (h : F .next lm σ) : dropW F lm .none σ := h
theorem drop_int {i : Int} (h : F .next lm σ) : dropW F lm (.int i) σ := h

/-- operators -/
theorem wb_add {x y : Int} (h : k (.int (x + y))) : WBin .Add (.int x) (.int y) k := .add h
theorem wb_sub {x y : Int} (h : k (.int (x - y))) : WBin .Sub (.int x) (.int y) k := .sub h
theorem wb_mul {x y : Int} (h1 : x.natAbs < 2 ^ 64) (h2 : y.natAbs < 2 ^ 64) (h : k (.int (x * y))) : WBin .Mult (.int x) (.int y) k := .mul h1 h2 h
theorem wb_div {x y : Int} (h1 : 0 < y) (h2 : y < 2 ^ 30) (h : k (.int (x.fdiv y))) : WBin .FloorDiv (.int x) (.int y) k := .div h1 h2 h
theorem wb_mod {x y : Int} (h1 : y ≠ 0) (h : k (.int (x.fmod y))) : WBin .Mod (.int x) (.int y) k := .mod h1 h
theorem wb_str {x y : Str} (h1 : x.length + y.length ≤ 1000000) (h : k (.str (x ++ y))) : WBin .Add (.str x) (.str y) k := .str h1 h
variable {K : Bool → Prop}
theorem wc_eq {x y : Int} (h : K (decide (x = y))) : WCmp .Eq (.int x) (.int y) σ K := .eq h
theorem wc_ne {x y : Int} (h : K (!decide (x = y))) : WCmp .NotEq (.int x) (.int y) σ K := .ne h
theorem wc_lt {x y : Int} (h : K (decide (x < y))) : WCmp .Lt (.int x) (.int y) σ K := .lt h
theorem wc_le {x y : Int} (h : K (decide (x ≤ y))) : WCmp .LtE (.int x) (.int y) σ K := .le h
theorem wc_gt {x y : Int} (h : K (decide (y < x))) : WCmp .Gt (.int x) (.int y) σ K := .gt h
theorem wc_ge {x y : Int} (h : K (decide (y ≤ x))) : WCmp .GtE (.int x) (.int y) σ K := .ge h
theorem wc_eqS {x y : Str} (h : K (decide (x = y))) : WCmp .Eq (.str x) (.str y) σ K := .eqS h
theorem wc_neS {x y : Str} (h : K (!decide (x = y))) : WCmp .NotEq (.str x) (.str y) σ K := .neS h
theorem wc_neB {x y : Bool} (h : K (x != y)) : WCmp .NotEq (.bool x) (.bool y) σ K := .neB h
theorem wc_inS {x y : Str} (h : K (Txt.contains y x)) : WCmp .In (.str x) (.str y) σ K := .inS h
theorem wc_ninS {x y : Str} (h : K (!Txt.contains y x)) : WCmp .NotIn (.str x) (.str y) σ K := .ninS h
theorem wc_inT {x : Str} {ys : List PV} (l : List Str) (e : strsOf ys = some l) (h : K (decide (x ∈ l))) : WCmp .In (.str x) (.tup ys) σ K := .inT l e h
theorem wc_eqL {a b : Addr} (xs : List PV) (l : List Str) (e1 : σ a = some (.list xs)) (e2 : σ b = some (.list [])) (e : strsOf xs = some l) (q : l.all PyData.strOk = true) (h : K (decide (l = []))) : WCmp .Eq (.ref a) (.ref b) σ K := .eqL xs l e1 e2 e q h
theorem wc_neL {a b : Addr} (xs : List PV) (l : List Str) (e1 : σ a = some (.list xs)) (e2 : σ b = some (.list [])) (e : strsOf xs = some l) (q : l.all PyData.strOk = true) (h : K (!decide (l = []))) : WCmp .NotEq (.ref a) (.ref b) σ K := .neL xs l e1 e2 e q h
theorem wc_neT {xs ys : List PV} (l m : List (Str ⊕ Int)) (e1 : flatOf xs = some l) (e2 : flatOf ys = some m) (q1 : l.all flatOk = true) (q2 : m.all flatOk = true) (h : K (!decide (l = m))) : WCmp .NotEq (.tup xs) (.tup ys) σ K := .neT l m e1 e2 q1 q2 h
theorem wc_inL {x : Str} {a : Addr} {ys : List PV} (l : List Str) (e1 : σ a = some (.list ys)) (e : strsOf ys = some l) (h : K (decide (x ∈ l))) : WCmp .In (.str x) (.ref a) σ K := .inL ys l e1 e h
theorem wc_ninL {x : Str} {a : Addr} {ys : List PV} (l : List Str) (e1 : σ a = some (.list ys)) (e : strsOf ys = some l) (h : K (!decide (x ∈ l))) : WCmp .NotIn (.str x) (.ref a) σ K := .ninL ys l e1 e h
end
section
variable {n d : Nat} {c : Cx} {lm : LM} {σ σ' τ : Sg} {Q : PV → Sg → Prop} {F : Fl → LM → Sg → Prop} {k : PV → Prop} {kg : Addr ⊕ String → Prop} {ks : Sg → Prop}
theorem wf_lenS {x : Str} (h0 : x.length < 2 ^ 62) (h : Q (.int x.length) σ) : WFun "len" [.str x] σ Q := .lenS h0 h
theorem wf_lenL {a : Addr} (xs : List PV) (e : σ a = some (.list xs)) (h0 : xs.length < 2 ^ 62) (h : Q (.int xs.length) σ) : WFun "len" [.ref a] σ Q := .lenL xs e h0 h
theorem wf_ord {x : Nat} (h : Q (.int x) σ) : WFun "ord" [.str ⟨#[x]⟩] σ Q := .ord h
theorem wf_chr {i : Int} (h0 : 0 ≤ i) (h1 : i ≤ 1114111) (h : Q (.str ⟨#[i.toNat]⟩) σ) : WFun "chr" [.int i] σ Q := .chr h0 h1 h
theorem wf_abs {i : Int} (h : Q (.int (if i < 0 then -i else i)) σ) : WFun "abs" [.int i] σ Q := .abs h
theorem wf_max {i j : Int} (h : Q (.int (if j > i then j else i)) σ) : WFun "max" [.int i, .int j] σ Q := .max h
theorem wt_int {i : Int} (h : Q (.int i) σ) : WTyp "int" [.int i] σ Q := .int h
theorem wt_range {i : Int} (h0 : i.natAbs < 2 ^ 62) (h : Q (.rng i) σ) : WTyp "range" [.int i] σ Q := .range h0 h
theorem wi_str {x : Str} {j : Int} (y : Nat) (h0 : 0 ≤ j) (h1 : j < 2 ^ 62) (e : x.cps[j.toNat]? = some y) (h : k (.str ⟨#[y]⟩)) : WItem (.str x) (.int j) σ k := .str y h0 h1 e h
theorem wi_list {a : Addr} {j : Int} (xs : List PV) (v : PV) (e1 : σ a = some (.list xs)) (h0 : 0 ≤ j) (h1 : j < 2 ^ 62) (e : xs[j.toNat]? = some v) (h : k v) : WItem (.ref a) (.int j) σ k := .list xs v e1 h0 h1 e h
theorem wi_tup {xs : List PV} {j : Int} (v : PV) (h0 : 0 ≤ j) (h1 : j < 2 ^ 62) (e : xs[j.toNat]? = some v) (h : k v) : WItem (.tup xs) (.int j) σ k := .tup v h0 h1 e h
theorem wm_starts {x y : Str} (h : Q (.bool (Txt.startswith x y)) σ) : WMet "str.startswith" (.str x) [.str y] σ Q := .starts h
theorem wm_find {x y : Str} (h : Q (.int (Txt.find x y)) σ) : WMet "str.find" (.str x) [.str y] σ Q := .find h
theorem wm_upper {x : Str} (h0 : x.length ≤ 1000) (h : Q (.str (Txt.upper x)) σ) : WMet "str.upper" (.str x) [] σ Q := .upper h0 h
theorem wm_join {x : Str} {a : Addr} (ys : List PV) (l : List Str) (e : σ a = some (.list ys)) (e2 : strsOf ys = some l) (h0 : x.length ≤ 64) (h1 : (l.map (fun y => y.length)).sum + l.length * 64 ≤ 1000000) (h : Q (.str (Txt.join x l)) σ) : WMet "str.join" (.str x) [.ref a] σ Q := .join ys l e e2 h0 h1 h
theorem wm_append {a : Addr} {v : PV} (xs : List PV) (e : σ a = some (.list xs)) (h0 : xs.length ≤ 1000000) (h : Q .none (sset σ a (.list (xs ++ [v])))) : WMet "list.append" (.ref a) [v] σ Q := .append xs e h0 h
theorem wm_getS {a : Addr} {x : Str} {v : PV} (m : Nat) (f : Str → Option PV) (e : σ a = some (.sdict m f)) (h : Q ((f x).getD v) σ) : WMet "dict.get" (.ref a) [.str x, v] σ Q := .getS m f e h
theorem wm_getT {a : Addr} {xs : List PV} {v : PV} (m : Nat) (f : List Int → Option PV) (l : List Int) (e0 : intsOf xs = some l) (e : σ a = some (.tdict m f)) (h : Q ((f l).getD v) σ) : WMet "dict.get" (.ref a) [.tup xs, v] σ Q := .getT m f l e0 e h
theorem wm_getES {a : Addr} {x : Str} {v : PV} (e : σ a = some .edict) (h : Q v σ) : WMet "dict.get" (.ref a) [.str x, v] σ Q := .getES e h
theorem wm_getET {a : Addr} {xs : List PV} {v : PV} (l : List Int) (e0 : intsOf xs = some l) (e : σ a = some .edict) (h : Q v σ) : WMet "dict.get" (.ref a) [.tup xs, v] σ Q := .getET l e0 e h
theorem wg_inst {a : Addr} {m : Str} (C dx : Addr) (fs : List (Str × PV)) (f : Addr) (e1 : σ a = some (.inst C dx)) (e2 : σ dx = some (.flds fs)) (e3 : lookF m fs = none) (e4 : methAt C m = some f) (h : kg (.inl f)) : WGet (.ref a) m σ kg := .inst C dx fs f e1 e2 e3 e4 h
theorem wg_append {a : Addr} (xs : List PV) (e : σ a = some (.list xs)) (h : kg (.inr "list.append")) : WGet (.ref a) (Str.ofString "append") σ kg := .append xs e h
theorem wg_get {a : Addr} (x : AO) (e : σ a = some x) (e1 : isD x = true) (h : kg (.inr "dict.get")) : WGet (.ref a) (Str.ofString "get") σ kg := .get x e e1 h
theorem wg_starts {x : Str} (h : kg (.inr "str.startswith")) : WGet (.str x) (Str.ofString "startswith") σ kg := .starts h
theorem wg_find {x : Str} (h : kg (.inr "str.find")) : WGet (.str x) (Str.ofString "find") σ kg := .find h
theorem wg_upper {x : Str} (h : kg (.inr "str.upper")) : WGet (.str x) (Str.ofString "upper") σ kg := .upper h
theorem wg_join {x : Str} (h : kg (.inr "str.join")) : WGet (.str x) (Str.ofString "join") σ kg := .join h
theorem wa_ {a : Addr} {m : Str} (C dx : Addr) (fs : List (Str × PV)) (v : PV) (e1 : σ a = some (.inst C dx)) (e2 : σ dx = some (.flds fs)) (e3 : fieldOk C m = true) (e4 : lookF m fs = some v) (e5 : notCon v = true) (h : k v) : WAttr (.ref a) m σ k := .mk C dx fs v e1 e2 e3 e4 e5 h
theorem wsa_ {a : Addr} {m : Str} {v : PV} (C dx : Addr) (fs : List (Str × PV)) (e1 : σ a = some (.inst C dx)) (e2 : σ dx = some (.flds fs)) (e3 : fieldOk C m = true) (e4 : fs.length ≤ 8) (h : ks (sset σ dx (.flds (putF m v fs)))) : WSetAttr (.ref a) m v σ ks := .mk C dx fs e1 e2 e3 e4 h
theorem wsi_list {a : Addr} {j : Int} {v : PV} (xs : List PV) (e : σ a = some (.list xs)) (h0 : 0 ≤ j) (h1 : j < 2 ^ 62) (h2 : j < xs.length) (h : ks (sset σ a (.list (xs.set j.toNat v)))) : WSetItem (.ref a) (.int j) v σ ks := .list xs e h0 h1 h2 h
theorem wsi_e {a : Addr} {x : Str} {v : PV} (e : σ a = some .edict) (h : ks (sset σ a (.sdict 1 fun y => if y = x then some v else none))) : WSetItem (.ref a) (.str x) v σ ks := .e e h
theorem wsi_s {a : Addr} {x : Str} {v : PV} (m : Nat) (f : Str → Option PV) (e : σ a = some (.sdict m f)) (h0 : m ≤ 1000000) (h : ks (sset σ a (.sdict (m + 1) fun y => if y = x then some v else f y))) : WSetItem (.ref a) (.str x) v σ ks := .s m f e h0 h
theorem wsi_te {a : Addr} {xs : List PV} {v : PV} (l : List Int) (e0 : intsOf xs = some l) (e : σ a = some .edict) (h : ks (sset σ a (.tdict 1 fun y => if y = l then some v else none))) : WSetItem (.ref a) (.tup xs) v σ ks := .te l e0 e h
theorem wsi_t {a : Addr} {xs : List PV} {v : PV} (l : List Int) (m : Nat) (f : List Int → Option PV) (e0 : intsOf xs = some l) (e : σ a = some (.tdict m f)) (h0 : m ≤ 1000000) (h : ks (sset σ a (.tdict (m + 1) fun y => if y = l then some v else f y))) : WSetItem (.ref a) (.tup xs) v σ ks := .t l m f e0 e h0 h
theorem wcut_str {x : Str} {i : Int} (h0 : x.length ≤ 1000000) (h : Q (.str (Txt.slice x none (some i))) σ) : WCut (.str x) none (some i) σ Q := .str h0 h
theorem wcut_list {a : Addr} {i j : Int} (xs : List PV) (e : σ a = some (.list xs)) (h0 : 0 ≤ i) (h1 : i ≤ j) (h2 : j < 2 ^ 62) (h3 : j ≤ xs.length) (h4 : xs.length ≤ 1000000) (h : ∀ b, σ b = none → Q (.ref b) (sset σ b (.list ((xs.take j.toNat).drop i.toNat)))) : WCut (.ref a) (some i) (some j) σ Q := .list xs e h0 h1 h2 h3 h4 h
theorem wcut_b {xs : List Int} {i : Int} (h0 : 0 ≤ i) (h1 : i < 2 ^ 62) (h2 : xs.length ≤ 1000000) (h : ∀ b, σ b = none → Q (.ref b) (sset σ b (.list ((xs.take i.toNat).map .int)))) : WCut (.blist xs) none (some i) σ Q := .blist h0 h1 h2 h
theorem fin_bool {b b' : Bool} (h : Q (.bool b) σ) (e : b = b') : retW Q (.ret (.bool b')) lm σ := ret_same (e ▸ h)
theorem fin_int {b b' : Int} (h : Q (.int b) σ) (e : b = b') : retW Q (.ret (.int b')) lm σ := ret_same (e ▸ h)

theorem forW_rule {body : LM → Sg → (Fl → LM → Sg → Prop) → Prop} {x : Str} {I : List PV → LM → Sg → Prop} (fin : ∀ lm σ, I [] lm σ → F .next lm σ)
    (step : ∀ v r lm σ (K : Fl → LM → Sg → Prop), I (v :: r) lm σ → (∀ lm' σ', I r lm' σ' → K .next lm' σ') → (∀ lm' σ', F .next lm' σ' → K .brk lm' σ') → (∀ u lm' σ', F (.ret u) lm' σ' → K (.ret u) lm' σ') → body (upd lm x v) σ K) :
    ∀ vs lm σ, I vs lm σ → forW body x vs lm σ F
  | [], lm, σ, h => fin lm σ h
  | v :: r, lm, σ, h => step v r lm σ _ h (fun lm' σ' h' => forW_rule fin step r lm' σ' h') (fun _ _ h => h) (fun _ _ _ h => h)
end
theorem g_len : glob (Str.ofString "len") = some (.con (.builtin "len")) := by kernel_rfl
theorem g_ord : glob (Str.ofString "ord") = some (.con (.builtin "ord")) := by kernel_rfl
theorem g_chr : glob (Str.ofString "chr") = some (.con (.builtin "chr")) := by kernel_rfl
theorem g_abs : glob (Str.ofString "abs") = some (.con (.builtin "abs")) := by kernel_rfl
theorem g_max : glob (Str.ofString "max") = some (.con (.builtin "max")) := by kernel_rfl
theorem g_int : glob (Str.ofString "int") = some (.con (.type "int")) := by kernel_rfl
theorem g_range : glob (Str.ofString "range") = some (.con (.type "range")) := by kernel_rfl
theorem g_MAX_CODE : glob (Str.ofString "MAX_CODE") = some (.int 1114111) := by kernel_rfl
theorem g_NO_CODE : glob (Str.ofString "NO_CODE") = some (.int (-1)) := by kernel_rfl
theorem g_BAD_CODE : glob (Str.ofString "BAD_CODE") = some (.int (-2)) := by kernel_rfl
theorem g_NEW_LINE : glob (Str.ofString "NEW_LINE") = some (.int 10) := by kernel_rfl
theorem g_DOUBLE_QUOTE : glob (Str.ofString "DOUBLE_QUOTE") = some (.int 34) := by kernel_rfl
theorem g_PERCENT : glob (Str.ofString "PERCENT") = some (.int 37) := by kernel_rfl
theorem g_QUOTE : glob (Str.ofString "QUOTE") = some (.int 39) := by kernel_rfl
theorem g_OPEN : glob (Str.ofString "OPEN") = some (.int 40) := by kernel_rfl
theorem g_STAR : glob (Str.ofString "STAR") = some (.int 42) := by kernel_rfl
theorem g_DOT : glob (Str.ofString "DOT") = some (.int 46) := by kernel_rfl
theorem g_SLASH : glob (Str.ofString "SLASH") = some (.int 47) := by kernel_rfl
theorem g_BACKSLASH : glob (Str.ofString "BACKSLASH") = some (.int 92) := by kernel_rfl
theorem g_UNDERSCORE : glob (Str.ofString "UNDERSCORE") = some (.int 95) := by kernel_rfl
theorem g_BACK_QUOTE : glob (Str.ofString "BACK_QUOTE") = some (.int 96) := by kernel_rfl
theorem g_LETTER_X : glob (Str.ofString "LETTER_X") = some (.int 120) := by kernel_rfl
theorem g_is_layout : glob (Str.ofString "is_layout") = some (.ref 28) := by kernel_rfl
theorem g_is_digit : glob (Str.ofString "is_digit") = some (.ref 35) := by kernel_rfl
theorem g_is_small : glob (Str.ofString "is_small") = some (.ref 42) := by kernel_rfl
theorem g_is_capital : glob (Str.ofString "is_capital") = some (.ref 49) := by kernel_rfl
theorem g_is_alnum : glob (Str.ofString "is_alnum") = some (.ref 56) := by kernel_rfl
theorem g_is_symbol : glob (Str.ofString "is_symbol") = some (.ref 63) := by kernel_rfl
theorem g_is_quotable : glob (Str.ofString "is_quotable") = some (.ref 70) := by kernel_rfl
theorem g_digit_value : glob (Str.ofString "digit_value") = some (.ref 77) := by kernel_rfl
theorem g_codes_text : glob (Str.ofString "codes_text") = some (.ref 82) := by kernel_rfl
theorem g_is_alnum_name : glob (Str.ofString "is_alnum_name") = some (.ref 89) := by kernel_rfl
theorem g_is_symbol_name : glob (Str.ofString "is_symbol_name") = some (.ref 96) := by kernel_rfl
theorem g_is_plain_name : glob (Str.ofString "is_plain_name") = some (.ref 103) := by kernel_rfl
theorem g_escaped : glob (Str.ofString "escaped") = some (.ref 110) := by kernel_rfl
theorem g_quoted_text : glob (Str.ofString "quoted_text") = some (.ref 117) := by kernel_rfl
theorem g_atom_text : glob (Str.ofString "atom_text") = some (.ref 125) := by kernel_rfl
theorem g_fixed_atoms : glob (Str.ofString "fixed_atoms") = some (.ref 164) := by kernel_rfl
theorem g_fixed_functors : glob (Str.ofString "fixed_functors") = some (.ref 171) := by kernel_rfl
theorem g_Symbols : glob (Str.ofString "Symbols") = some (.ref 258) := by kernel_rfl
theorem g_simple_escape : glob (Str.ofString "simple_escape") = some (.ref 269) := by kernel_rfl
theorem g_Tokenizer : glob (Str.ofString "Tokenizer") = some (.ref 413) := by kernel_rfl
theorem g_law_pool : glob (Str.ofString "_law_pool") = some (.ref 424) := by kernel_rfl
theorem g_law_pick : glob (Str.ofString "_law_pick") = some (.ref 431) := by kernel_rfl
theorem g_law_name : glob (Str.ofString "_law_name") = some (.ref 438) := by kernel_rfl
theorem g_law_bare : glob (Str.ofString "_law_bare") = some (.ref 443) := by kernel_rfl

noncomputable def isSm (c : Int) : Bool := decide (97 ≤ c) && decide (c ≤ 122)
noncomputable def isCp (c : Int) : Bool := decide (65 ≤ c) && decide (c ≤ 90)
noncomputable def isDg (c : Int) : Bool := decide (48 ≤ c) && decide (c ≤ 57)
noncomputable def isLy (c : Int) : Bool := decide (c = 32) || (decide (9 ≤ c) && decide (c ≤ 13))
noncomputable def isAl (c : Int) : Bool := isSm c || (isCp c || (isDg c || decide (c = 95)))
noncomputable def symS : Str := Str.ofString "+-*/\\^<>=~:.?@#&$"
noncomputable def isSy (c : Int) : Bool := decide (0 ≤ c) && (decide (c < 128) && Txt.contains symS ⟨#[c.toNat]⟩)
noncomputable def isQu (c : Int) : Bool := decide (32 ≤ c) && ((!decide (c = 127)) && decide (c ≤ 1114111))
noncomputable def digV (c : Int) : Int := if isDg c = true then c - 48 else if isSm c = true then c - 87 else if isCp c = true then c - 55 else -1
/-- locals, one of them at some value or other -/
noncomputable def lmx (lm : LM) (x : Str) (o : Option PV) : LM := fun y => if y = x then (match o with | some v => some v | none => lm y) else lm y
theorem lmx_none {lm : LM} {x : Str} : lm = lmx lm x none := by funext y; unfold lmx; dsimp only; split <;> rfl
theorem lmx_some {lm : LM} {x : Str} {v : PV} : upd lm x v = lmx lm x (some v) := by funext y; unfold lmx upd; dsimp only
theorem upd_lmx {lm : LM} {x : Str} {o : Option PV} {v : PV} : upd (lmx lm x o) x v = upd lm x v := by
  funext y; unfold upd
  split
  · rfl
  · rename_i q; exact if_neg q
theorem lmx_miss {lm : LM} {x y : Str} {o : Option PV} (h : decide (y = x) = false) {r : Option PV} (e : lm y = r) : lmx lm x o y = r := (if_neg (of_decide_eq_false h)).trans e
theorem noLM_none {x : Str} : noLM x = none := rfl
end
section
open PySem PySem.W PyProof.Rows PySem.Builtin PySem.Builtin.Str
noncomputable abbrev nI (c : Nat) : PV := .int (c : Int)
/-- a text by its codes -/
noncomputable abbrev S (l : List Nat) : Str := ⟨l.toArray⟩
theorem S_len (l : List Nat) : (S l).length = l.length := by show l.toArray.size = _; simp
theorem S_cps (l : List Nat) : (S l).cps.toList = l := by show l.toArray.toList = _; simp
theorem S_of (s : Str) : s = S s.cps.toList := by cases s; rfl
theorem S_inj {a b : List Nat} : S a = S b ↔ a = b := ⟨fun h => by rw [← S_cps a, h, S_cps], fun h => h ▸ rfl⟩
theorem S_app (a b : List Nat) : S a ++ S b = S (a ++ b) := by
  show Str.mk (a.toArray ++ b.toArray) = Str.mk _
  simp
theorem contains_one (x : Str) (c : Nat) : Txt.contains x ⟨#[c]⟩ = decide (c ∈ x.cps.toList) := by
  rw [Bool.eq_iff_iff]
  unfold Txt.contains
  rw [StrLaws.found_iff, decide_eq_true_eq, List.mem_iff_getElem?]
  exact exists_congr fun i => StrLaws.subAt_one x c i
theorem glue_go (parts : List (List Nat)) : ∀ acc : List Nat, (parts.map S).foldl (fun acc p => acc ++ (#[] : Array Nat) ++ p.cps) acc.toArray = (acc ++ parts.flatten).toArray := by
  induction parts with
  | nil => intro acc; simp
  | cons p r ih =>
    intro acc
    have : acc.toArray ++ #[] ++ (S p).cps = (acc ++ p).toArray := by
      show acc.toArray ++ #[] ++ p.toArray = _
      simp
    rw [List.map_cons, List.foldl_cons, this, ih]
    simp
theorem join_S (parts : List (List Nat)) : Txt.join ⟨#[]⟩ (parts.map S) = S parts.flatten := by
  cases parts with
  | nil => rfl
  | cons p r =>
    show Str.mk (((p :: r).map S |>.drop 1).foldl (fun acc q => acc ++ (#[] : Array Nat) ++ q.cps) (((p :: r).map S).headD Str.empty).cps) = _
    rw [List.map_cons, List.drop_succ_cons, List.drop_zero, List.headD_cons]
    rw [glue_go r p]
    simp
theorem find_one (x : Str) (c : Nat) : (Txt.find x ⟨#[c]⟩ = -1 ∧ c ∉ x.cps.toList) ∨ ∃ i : Nat, Txt.find x ⟨#[c]⟩ = i ∧ x.cps.toList[i]? = some c := by
  rcases find_whole x ⟨#[c]⟩ with ⟨h1, h2⟩ | ⟨i, h1, h2, _⟩
  · refine .inl ⟨h1, fun hm => ?_⟩
    obtain ⟨i, hi⟩ := List.mem_iff_getElem?.mp hm
    exact h2 i ((StrLaws.subAt_one x c i).mpr hi)
  · exact .inr ⟨i, h1, (StrLaws.subAt_one x c i).mp h2⟩
theorem starts_S (a b : List Nat) : Txt.startswith (S a) (S b) = decide (a.take b.length = b) := by
  unfold Txt.startswith
  rw [StrLaws.subAt_eq, S_cps, S_cps, S_len, S_len, List.drop_zero]
  by_cases h : a.take b.length = b
  · have h1 : b.length ≤ a.length := by rw [← h, List.length_take]; omega
    simp [h, h1]
  · simp [h]
theorem strsOf_S (l : List (List Nat)) : strsOf (l.map fun x => .str (S x)) = some (l.map S) := by
  induction l with
  | nil => rfl
  | cons a r ih => simp [strsOf, ih]
theorem strsOf_str (l : List Str) : strsOf (l.map .str) = some l := by
  induction l with
  | nil => rfl
  | cons a r ih => simp [strsOf, ih]
theorem sset_sset (σ : Sg) (a : Addr) (x y : AO) : sset (sset σ a x) a y = sset σ a y := by
  funext b; unfold sset; split <;> rfl
theorem filter_tt {α : Type} (l : List α) : l.filter (fun _ => true) = l := by induction l with | nil => rfl | cons a r ih => rw [List.filter_cons, if_pos rfl, ih]
theorem flat_one (cs : List Nat) : (cs.map fun c => [c]).flatten = cs := by induction cs with | nil => rfl | cons a r ih => simp [ih]
theorem sum_ones {α : Type} (cs : List α) : (cs.map fun _ => 1).sum = cs.length := by induction cs with | nil => rfl | cons a r ih => simp [ih]; omega
theorem symS_mem (c : Nat) : Txt.contains symS ⟨#[c]⟩ = decide (c ∈ [43, 45, 42, 47, 92, 94, 60, 62, 61, 126, 58, 46, 63, 64, 35, 38, 36]) := by
  rw [contains_one]
  have : symS.cps.toList = [43, 45, 42, 47, 92, 94, 60, 62, 61, 126, 58, 46, 63, 64, 35, 38, 36] := by kernel_rfl
  rw [this]

noncomputable def hexD (n : Nat) : Nat := if n < 10 then 48 + n else 87 + n
/-- what stands for a code in quotes -/
noncomputable def escL (c : Nat) : List Nat :=
  if c = 39 ∨ c = 92 then [92, c] else if 7 ≤ c ∧ c ≤ 13 then [92, [97, 98, 116, 110, 118, 102, 114].getD (c - 7) 0]
  else if c < 32 ∨ c = 127 then [92, 120, hexD (c / 16), hexD (c % 16), 92] else [c]
noncomputable def quoL (l : List Nat) : List Nat := 39 :: (l.flatMap escL ++ [39])
noncomputable def alnumName (l : List Nat) : Bool := match l with
  | [] => false
  | c :: r => isSm c && (c :: r).all fun c => isAl c
noncomputable def symName (l : List Nat) : Bool := match l with
  | [] => false
  | c :: r => (c :: r).all fun c => isSy c
noncomputable def fourL : List (List Nat) := [[91, 93], [123, 125], [33], [59]]
noncomputable def plainL (l : List Nat) : Bool := decide (l ∈ fourL) || (alnumName l || (symName l && (!decide (l = [46]) && !decide (l.take 2 = [47, 42]))))
noncomputable def textL (l : List Nat) : List Nat := if plainL l = true then l else quoL l
section
variable {σ : Sg} {Q : PV → Sg → Prop} {k : PV → Prop}
theorem wb_S {x y : Str} {a b : List Nat} (hx : x = S a) (hy : y = S b) (h1 : a.length + b.length ≤ 1000000) (h : k (.str (S (a ++ b)))) : WBin .Add (.str x) (.str y) k := by
  subst hx hy
  exact .str (by rw [S_len, S_len]; exact h1) (by rw [S_app]; exact h)
theorem wi_S {x : Str} {l : List Nat} (hx : x = S l) {i : Int} {j : Nat} (hi : i = j) {y : Nat} (e : l[j]? = some y) (hj : j < 2 ^ 62) (h : k (.str (S [y]))) : WItem (.str x) (.int i) σ k := by
  subst hx hi
  exact .str y (Int.natCast_nonneg j) (by omega) (by rw [Int.toNat_natCast]; show l.toArray[j]? = _; simpa using e) h
theorem wf_chrN {c : Nat} (hc : c ≤ 1114111) (h : Q (.str (S [c])) σ) : WFun "chr" [.int (c : Int)] σ Q := .chr (Int.natCast_nonneg c) (by omega) (by rw [Int.toNat_natCast]; exact h)
theorem fdiv_nat (c m : Nat) : (c : Int).fdiv (m : Int) = ((c / m : Nat) : Int) := by rw [Int.fdiv_eq_ediv_of_nonneg _ (Int.natCast_nonneg m)]; rfl
theorem fmod_nat (c m : Nat) : (c : Int).fmod (m : Int) = ((c % m : Nat) : Int) := by rw [Int.fmod_eq_emod_of_nonneg _ (Int.natCast_nonneg m)]; rfl
theorem wb_divN {c m : Nat} (h1 : 0 < m) (h2 : m < 2 ^ 30) (h : k (.int ((c / m : Nat) : Int))) : WBin .FloorDiv (.int (c : Int)) (.int (m : Int)) k := .div (by omega) (by omega) (by rw [fdiv_nat]; exact h)
theorem wb_modN {c m : Nat} (h1 : 0 < m) (h : k (.int ((c % m : Nat) : Int))) : WBin .Mod (.int (c : Int)) (.int (m : Int)) k := .mod (by omega) (by rw [fmod_nat]; exact h)
theorem bsS : Str.ofString "\\" = S [92] := by decide +kernel
theorem bsxS : Str.ofString "\\x" = S [92, 120] := by decide +kernel
theorem escS : Str.ofString "abtnvfr" = S [97, 98, 116, 110, 118, 102, 114] := by decide +kernel
theorem hexS : Str.ofString "0123456789abcdef" = S ((List.range 16).map hexD) := by decide +kernel
theorem hex_get {j : Nat} (h : j < 16) : ((List.range 16).map hexD)[j]? = some (hexD j) := by simp [h]
theorem escL1 {c : Nat} (h : c = 39 ∨ c = 92) : escL c = [92] ++ [c] := if_pos h
theorem escL2 {c : Nat} (h0 : 7 ≤ c) (h : c ≤ 13) : escL c = [92] ++ [[97, 98, 116, 110, 118, 102, 114].getD (c - 7) 0] := by
  unfold escL; rw [if_neg (by omega), if_pos ⟨h0, h⟩]; rfl
theorem escL3 {c : Nat} (h0 : ¬ (7 ≤ c ∧ c ≤ 13)) (h : c < 32 ∨ c = 127) : escL c = [92, 120] ++ [hexD (c / 16)] ++ [hexD (c % 16)] ++ [92] := by
  unfold escL; rw [if_neg (by omega), if_neg h0, if_pos h]; rfl
theorem escL4 {c : Nat} (h1 : c ≠ 39) (h2 : c ≠ 92) (h0 : 32 ≤ c) (h : c ≠ 127) : escL c = [c] := by
  unfold escL; rw [if_neg (by omega), if_neg (by omega), if_neg (by omega)]
theorem fin_S {lm : LM} {a b : List Nat} (h : Q (.str (S a)) σ) (e : a = b) : retW Q (.ret (.str (S b))) lm σ := ret_same (e ▸ h)
end
theorem upd_upd {lm : LM} {x : Str} {u v : PV} : upd (upd lm x u) x v = upd lm x v := by funext y; unfold upd; split <;> rfl
theorem while_rule {test : Expr} {body : List Stmt} {p : Pos} {c : Cx} {F : Fl → LM → Sg → Prop} (Inv : Nat → LM → Sg → Prop) (m : Nat)
    (step : ∀ k lm σ n, Inv (k + 1) lm σ → (∀ lm' σ', Inv k lm' σ' → WS (n + m) c (.While test body [] p) lm' σ' F) → WS (n + m + 1) c (.While test body [] p) lm σ F)
    (last : ∀ lm σ n, Inv 0 lm σ → WS (n + m + 1) c (.While test body [] p) lm σ F) : ∀ k lm σ n, Inv k lm σ → WS (n + m + 1 + k) c (.While test body [] p) lm σ F
  | 0, lm, σ, n, h => last lm σ n h
  | k + 1, lm, σ, n, h => by
    have := step k lm σ (n + k + 1) h fun lm' σ' h' => by
      have := while_rule Inv m step last k lm' σ' n h'
      rwa [show n + k + 1 + m = n + m + 1 + k by omega]
    rwa [show n + m + 1 + (k + 1) = n + k + 1 + m + 1 by omega]
end
section
open PySem PySem.W PyProof.Rows


local macro_rules | `(tactic| walk_at "wv") => `(tactic| with_reducible (first | exact upd_hit | (refine upd_miss ?_ ?_; (· decide +kernel); walk_at "wv") | exact noLM_none | assumption | (refine freeLM_none ?_; decide +kernel) | (refine freeLM_some ?_ ?_; (· decide +kernel); walk_at "wv") | (refine lmx_miss ?_ ?_; (· decide +kernel); walk_at "wv")))
local macro_rules | `(tactic| walk_at "wg") => `(tactic| with_reducible (first | exact g_len | exact g_ord | exact g_chr | exact g_abs | exact g_max | exact g_int | exact g_range | exact g_MAX_CODE | exact g_NO_CODE | exact g_BAD_CODE | exact g_NEW_LINE | exact g_DOUBLE_QUOTE | exact g_PERCENT | exact g_QUOTE | exact g_OPEN | exact g_STAR | exact g_DOT | exact g_SLASH | exact g_BACKSLASH | exact g_UNDERSCORE | exact g_BACK_QUOTE | exact g_LETTER_X | exact g_is_layout | exact g_is_digit | exact g_is_small | exact g_is_capital | exact g_is_alnum | exact g_is_symbol | exact g_is_quotable | exact g_digit_value | exact g_codes_text | exact g_is_alnum_name | exact g_is_symbol_name | exact g_is_plain_name | exact g_escaped | exact g_quoted_text | exact g_atom_text | exact g_fixed_atoms | exact g_fixed_functors | exact g_Symbols | exact g_simple_escape | exact g_Tokenizer | exact g_law_pool | exact g_law_pick | exact g_law_name | exact g_law_bare))
/-- one step -/
local macro_rules | `(tactic| walk_at "wc") => `(tactic| fail)
local macro_rules | `(tactic| walk_at "w") => `(tactic| with_reducible (first
  | refine ws_cons ?_
  | refine ws_nil ?_
  | refine then_next ?_
  | refine then_ret ?_
  | refine then_brk ?_
  | refine ws_ret ?_
  | refine ws_ret0 ?_
  | refine ws_brk ?_
  | refine ws_if ?_
  | (refine' ws_set ?_ ?_ ?_; (· kernel_rfl); (· kernel_rfl))
  | (refine' ws_setK ?_ ?_ ?_; (· kernel_rfl); (· kernel_rfl))
  | refine ws_setA ?_
  | refine ws_setI ?_
  | (refine' ws_aug ?_ ?_; (· kernel_rfl))
  | (refine' ws_augI ?_ ?_; (· kernel_rfl))
  | (refine' ws_for ?_ ?_ ?_; (· kernel_rfl); (· kernel_rfl))
  | refine ws_while ?_
  | (refine' ws_expr ?_ ?_; (· kernel_rfl))
  | refine drop_none ?_
  | refine drop_int ?_
  | refine turn_brk ?_
  | refine turn_ret ?_
  | refine we_int ?_
  | refine we_str ?_
  | refine we_bool ?_
  | refine we_none ?_
  | (guard_target = WE _ _ (PySem.Expr.Name _ _) _ _ _; first | refine we_name (by walk_at "wv") ?_ | refine we_glob (by walk_at "wv") (by kernel_rfl) (by walk_at "wg") ?_)
  | refine we_boolop ?_
  | refine we_not ?_
  | refine not_done ?_
  | refine we_usub_int ?_
  | refine we_bin ?_
  | (refine' we_cmp ?_ ?_; (· kernel_rfl))
  | refine we_ifexp ?_
  | (refine' we_callM ?_ ?_; (· kernel_rfl))
  | (refine' we_callN ?_ ?_; (· kernel_rfl))
  | (refine' we_attr ?_ ?_; (· kernel_rfl))
  | refine we_upto ?_
  | refine upto_done ?_
  | refine we_cut ?_
  | refine cut_done ?_
  | refine we_subC ?_
  | refine we_subN ?_
  | refine we_subB ?_
  | refine we_subS ?_
  | refine we_subK ?_
  | (refine' we_list ?_ ?_; (· kernel_rfl))
  | (refine' we_tuple ?_ ?_; (· kernel_rfl))
  | refine we_dict ?_
  | refine wt_boolop ?_
  | refine wt_not ?_
  | (refine' wt_cmp ?_ ?_; (· kernel_rfl))
  | refine wt_name ?_
  | refine wt_const ?_
  | refine wt_call ?_
  | refine bool_done ?_
  | refine wbo_one ?_
  | refine wbo_cons ?_
  | refine bo_and (fun hb => ?_) (fun hb => ?_)
  | refine bo_or (fun hb => ?_) (fun hb => ?_)
  | refine wtb_andN ?_
  | refine wtb_orN ?_
  | refine wtb_cons ?_
  | refine tb_and (fun hb => ?_) (fun hb => ?_)
  | refine tb_or (fun hb => ?_) (fun hb => ?_)
  | refine wif_t ?_
  | refine wif_f ?_
  | refine wif (fun hb => ?_) (fun hb => ?_)
  | refine wts_nil ?_
  | refine wts_one ?_
  | refine wl_nil ?_
  | refine wl_cons ?_
  | (refine and_fun ?_ ?_; (· kernel_rfl))
  | (refine and_met ?_ ?_; (· kernel_rfl))
  | refine wca_fun ?_
  | refine wca_typ ?_
  | (refine' wca_def ?_ ?_; (· kernel_rfl))
  | refine wme_def ?_
  | refine wme_fun ?_
  | refine wf_ord ?_
  | refine wf_abs ?_
  | refine wf_max ?_
  | refine wt_int ?_
  | refine wm_starts ?_
  | refine wm_find ?_
  | refine wg_starts ?_
  | refine wg_find ?_
  | refine wg_upper ?_
  | refine wg_join ?_
  | refine wb_add ?_
  | refine wb_sub ?_
  | refine wc_eq ?_
  | refine wc_ne ?_
  | refine wc_lt ?_
  | refine wc_le ?_
  | refine wc_gt ?_
  | refine wc_ge ?_
  | refine wc_eqS ?_
  | refine wc_neS ?_
  | refine wc_neB ?_
  | refine wc_inS ?_
  | refine wc_ninS ?_
  | walk_at "wc"))
/-- a Boolean end -/
local macro_rules | `(tactic| walk_at "wx") => `(tactic| simp only [*, Bool.true_and, Bool.false_and, Bool.and_true, Bool.and_false, Bool.true_or, Bool.false_or, Bool.or_true, Bool.or_false, Bool.not_true, Bool.not_false, if_true, if_false, Bool.false_eq_true])

theorem wift {b : Bool} {X Y : Prop} (e : b = true) (h : X) : if b = true then X else Y := by rw [if_pos e]; exact h
theorem wiff {b : Bool} {X Y : Prop} (e : b = false) (h : Y) : if b = true then X else Y := by rw [e]; exact h
section
variable {n : Nat} {c : Cx} {lm : LM} {σ : Sg} {T : Bool → Sg → Prop} {Q : PV → Sg → Prop} {b : Bool} {r : List Expr}
theorem tb_andT (e : b = true) (h : WTb n c .And r lm σ T) : tbW n c .And r lm T b σ := tb_and (fun _ => h) (fun q => by rw [e] at q; cases q)
theorem tb_andF (e : b = false) (h : T false σ) : tbW n c .And r lm T b σ := tb_and (fun q => by rw [e] at q; cases q) (fun _ => h)
theorem tb_orT (e : b = true) (h : T true σ) : tbW n c .Or r lm T b σ := tb_or (fun _ => h) (fun q => by rw [e] at q; cases q)
theorem tb_orF (e : b = false) (h : WTb n c .Or r lm σ T) : tbW n c .Or r lm T b σ := tb_or (fun q => by rw [e] at q; cases q) (fun _ => h)
end

/-- a test whose answer is known -/
local macro_rules | `(tactic| walk_at "wq") => `(tactic| with_reducible (first
  | (refine wift ?_ ?_; · assumption)
  | (refine wiff ?_ ?_; · assumption)
  | (refine tb_andT ?_ ?_; · assumption)
  | (refine tb_andF ?_ ?_; · assumption)
  | (refine tb_orT ?_ ?_; · assumption)
  | (refine tb_orF ?_ ?_; · assumption)
  | (refine wift ?_ ?_; · decide)
  | (refine wiff ?_ ?_; · decide)
  | (refine tb_andT ?_ ?_; · decide)
  | (refine tb_andF ?_ ?_; · decide)
  | (refine tb_orT ?_ ?_; · decide)
  | (refine tb_orF ?_ ?_; · decide)))
section
section
variable {n d : Nat} {kind : Str → Option NameKind} {σ : Sg} {Q : PV → Sg → Prop}
theorem c_is_small {x : Int} (h : Q (.bool (isSm x)) σ) : WCf (n + 12) ⟨kind, d + 1⟩ 42 [.int x] σ Q := by
  refine wcf (f := f_is_small) (lm := upd noLM (Str.ofString "code") (.int x)) (by rfl) (by kernel_rfl) ?_
  conv in f_is_small.body => whnf
  repeat' walk_at "w"
  all_goals exact fin_bool h (by unfold isSm; walk_at "wx")
theorem c_is_capital {x : Int} (h : Q (.bool (isCp x)) σ) : WCf (n + 12) ⟨kind, d + 1⟩ 49 [.int x] σ Q := by
  refine wcf (f := f_is_capital) (lm := upd noLM (Str.ofString "code") (.int x)) (by rfl) (by kernel_rfl) ?_
  conv in f_is_capital.body => whnf
  repeat' walk_at "w"
  all_goals exact fin_bool h (by unfold isCp; walk_at "wx")
theorem c_is_digit {x : Int} (h : Q (.bool (isDg x)) σ) : WCf (n + 12) ⟨kind, d + 1⟩ 35 [.int x] σ Q := by
  refine wcf (f := f_is_digit) (lm := upd noLM (Str.ofString "code") (.int x)) (by rfl) (by kernel_rfl) ?_
  conv in f_is_digit.body => whnf
  repeat' walk_at "w"
  all_goals exact fin_bool h (by unfold isDg; walk_at "wx")
theorem c_is_layout {x : Int} (h : Q (.bool (isLy x)) σ) : WCf (n + 14) ⟨kind, d + 1⟩ 28 [.int x] σ Q := by
  refine wcf (f := f_is_layout) (lm := upd noLM (Str.ofString "code") (.int x)) (by rfl) (by kernel_rfl) ?_
  conv in f_is_layout.body => whnf
  repeat' walk_at "w"
  all_goals exact fin_bool h (by unfold isLy; walk_at "wx")
theorem c_is_quotable {x : Int} (h : Q (.bool (isQu x)) σ) : WCf (n + 14) ⟨kind, d + 1⟩ 70 [.int x] σ Q := by
  refine wcf (f := f_is_quotable) (lm := upd noLM (Str.ofString "code") (.int x)) (by rfl) (by kernel_rfl) ?_
  conv in f_is_quotable.body => whnf
  repeat' walk_at "w"
  all_goals exact fin_bool h (by unfold isQu; walk_at "wx")
theorem c_is_symbol {x : Int} (h : Q (.bool (isSy x)) σ) : WCf (n + 18) ⟨kind, d + 1⟩ 63 [.int x] σ Q := by
  refine wcf (f := f_is_symbol) (lm := upd noLM (Str.ofString "code") (.int x)) (by rfl) (by kernel_rfl) ?_
  conv in f_is_symbol.body => whnf
  repeat' walk_at "w"
  · rename_i h0 h1
    have h0' := of_decide_eq_true h0
    have h1' := of_decide_eq_true h1
    refine wf_chr (by omega) (by omega) ?_
    repeat' walk_at "w"
    exact fin_bool h (by unfold isSy; rw [h0, h1]; rfl)
  all_goals exact fin_bool h (by unfold isSy; walk_at "wx")
local macro_rules | `(tactic| walk_at "wc") => `(tactic| first | refine c_is_small ?_ | refine c_is_capital ?_ | refine c_is_digit ?_ | refine c_is_layout ?_ | refine c_is_quotable ?_ | refine c_is_symbol ?_)
theorem c_is_alnum {x : Int} (h : Q (.bool (isAl x)) σ) : WCf (n + 30) ⟨kind, d + 2⟩ 56 [.int x] σ Q := by
  refine wcf (f := f_is_alnum) (lm := upd noLM (Str.ofString "code") (.int x)) (by rfl) (by kernel_rfl) ?_
  conv in f_is_alnum.body => whnf
  repeat' walk_at "w"
  all_goals exact fin_bool h (by unfold isAl; walk_at "wx")
theorem c_digit_value {x : Int} (h : Q (.int (digV x)) σ) : WCf (n + 30) ⟨kind, d + 2⟩ 77 [.int x] σ Q := by
  refine wcf (f := f_digit_value) (lm := upd noLM (Str.ofString "code") (.int x)) (by rfl) (by kernel_rfl) ?_
  conv in f_digit_value.body => whnf
  repeat' walk_at "w"
  all_goals exact fin_int h (by unfold digV; walk_at "wx")
end
end
section
local macro_rules | `(tactic| walk_at "wc") => `(tactic| first | refine c_is_small ?_ | refine c_is_capital ?_ | refine c_is_digit ?_ | refine c_is_layout ?_ | refine c_is_quotable ?_ | refine c_is_symbol ?_ | refine c_is_alnum ?_ | refine c_digit_value ?_)
section
variable {n d : Nat} {kind : Str → Option NameKind} {σ : Sg} {Q : PV → Sg → Prop}
theorem c_codes_text {a : Addr} {cs : List Nat} (e : σ a = some (.list (cs.map nI))) (h0 : ∀ c ∈ cs, c ≤ 1114111) (h1 : cs.length ≤ 1000) (h : Q (.str (S cs)) σ) : WCf (n + 30) ⟨kind, d + 1⟩ 82 [.ref a] σ Q := by
  refine wcf (f := f_codes_text) (lm := upd noLM (Str.ofString "codes") (.ref a)) (by rfl) (by kernel_rfl) ?_
  conv in f_codes_text.body => whnf
  repeat' walk_at "w"
  refine we_comp (fun _ => true) (fun v => match v with | .int i => .str ⟨#[i.toNat]⟩ | _ => .none) (by kernel_rfl) (by kernel_rfl) ?_
  repeat' walk_at "w"
  refine wlc (cs.map nI) (by show (match σ a with | some (.list xs) => some xs | _ => none) = _; rw [e]) (by simp; omega) (by simp [isSI]) ?_ ?_ ?_
  · intro v hv
    refine wts_nil rfl
  · intro v hv _
    obtain ⟨c, hc, rfl⟩ := List.mem_map.mp hv
    repeat' walk_at "w"
    exact wf_chr (by omega) (by have := h0 c hc; omega) ⟨rfl, rfl⟩
  · intro b hb
    repeat' walk_at "w"
    have e2 : ((cs.map nI).filter fun _ => true).map (fun v => match v with | .int i => PV.str ⟨#[i.toNat]⟩ | _ => PV.none) = (cs.map fun c => [c]).map fun x => .str (S x) := by
      rw [filter_tt, List.map_map, List.map_map]; exact List.map_congr_left fun c _ => by simp [S]
    rw [e2]
    refine wm_join _ _ sset_hit (strsOf_S _) (by decide +kernel) ?_ ?_
    · rw [List.map_map, List.map_map, List.length_map, List.length_map]
      have := sum_ones cs
      show (cs.map fun _ => 1).sum + _ ≤ _
      omega
    · repeat' walk_at "w"
      refine ret_less σ (sle_sset hb (sle_refl σ)) ?_
      show Q (.str (Txt.join ⟨#[]⟩ _)) σ
      rw [join_S, flat_one]; exact h

theorem c_is_alnum_name {l : List Nat} (hl : l.length ≤ 1000) (h : Q (.bool (alnumName l)) σ) : WCf (n + 60) ⟨kind, d + 3⟩ 89 [.str (S l)] σ Q := by
  refine wcf (f := f_is_alnum_name) (lm := upd noLM (Str.ofString "text") (.str (S l))) (by rfl) (by kernel_rfl) ?_
  conv in f_is_alnum_name.body => whnf
  repeat' walk_at "w"
  · rename_i hb
    have hb := of_decide_eq_true hb
    have : l = [] := S_inj.mp (hb.trans (by decide +kernel : Str.ofString "" = S []))
    subst this
    exact fin_bool h rfl
  · rename_i hb
    cases l with
    | nil => exact absurd rfl (of_decide_eq_false hb)
    | cons c r =>
    refine wi_str c (by decide) (by decide) rfl ?_
    repeat' walk_at "w"
    · rename_i hb
      exact fin_bool h (by simp_all [alnumName])
    · rename_i hb
      have hb : isSm c = true := by simpa using hb
      refine ⟨_, rfl, by simp at hl ⊢; omega, ?_⟩
      refine forW_rule (I := fun vs lm σ' => σ' = σ ∧ (∃ o, lm = lmx (upd noLM (Str.ofString "text") (.str (S (c :: r)))) (Str.ofString "char") o) ∧ ∃ done rest, vs = rest.map (fun c => .str (S [c])) ∧ c :: r = done ++ rest ∧ (done.all fun c => isAl c) = true) ?_ ?_ _ _ _ ⟨rfl, ⟨none, lmx_none⟩, [], c :: r, ?_, rfl, rfl⟩
      · rintro lm σ' ⟨rfl, ⟨o, rfl⟩, done, rest, h1, h2, h3⟩
        have : rest = [] := by simpa using h1.symm
        subst this
        repeat' walk_at "w"
        exact fin_bool h (by rw [List.append_nil] at h2; subst h2; simp [alnumName, hb, h3])
      · rintro v vs lm σ' K ⟨rfl, ⟨o, rfl⟩, done, rest, h1, h2, h3⟩ kn kb kr
        cases rest with
        | nil => cases h1
        | cons x rest =>
        obtain ⟨rfl, rfl⟩ := List.cons.inj h1
        rw [upd_lmx]
        repeat' walk_at "w"
        · rename_i hb2
          refine kr _ _ _ ?_
          repeat' walk_at "w"
          refine fin_bool h ?_
          have hx : isAl x = false := by simpa using hb2
          show (isSm c && (c :: r).all fun c => isAl c) = false
          rw [h2]; simp [hx]
        · rename_i hb2
          refine kn _ _ ⟨rfl, ⟨_, lmx_some⟩, done ++ [x], rest, rfl, by rw [h2]; simp, ?_⟩
          have hx : isAl x = true := by simpa using hb2
          simp_all
      · show _ = List.map _ _
        simp [S]

theorem c_is_symbol_name {l : List Nat} (hl : l.length ≤ 1000) (h : Q (.bool (symName l)) σ) : WCf (n + 60) ⟨kind, d + 3⟩ 96 [.str (S l)] σ Q := by
  refine wcf (f := f_is_symbol_name) (lm := upd noLM (Str.ofString "text") (.str (S l))) (by rfl) (by kernel_rfl) ?_
  conv in f_is_symbol_name.body => whnf
  repeat' walk_at "w"
  · rename_i hb
    have hb := of_decide_eq_true hb
    have : l = [] := S_inj.mp (hb.trans (by decide +kernel : Str.ofString "" = S []))
    subst this
    exact fin_bool h rfl
  · rename_i hb
    cases l with
    | nil => exact absurd rfl (of_decide_eq_false hb)
    | cons c r =>
      refine ⟨_, rfl, by simp at hl ⊢; omega, ?_⟩
      refine forW_rule (I := fun vs lm σ' => σ' = σ ∧ (∃ o, lm = lmx (upd noLM (Str.ofString "text") (.str (S (c :: r)))) (Str.ofString "char") o) ∧ ∃ done rest, vs = rest.map (fun c => .str (S [c])) ∧ c :: r = done ++ rest ∧ (done.all fun c => isSy c) = true) ?_ ?_ _ _ _ ⟨rfl, ⟨none, lmx_none⟩, [], c :: r, ?_, rfl, rfl⟩
      · rintro lm σ' ⟨rfl, ⟨o, rfl⟩, done, rest, h1, h2, h3⟩
        have : rest = [] := by simpa using h1.symm
        subst this
        repeat' walk_at "w"
        exact fin_bool h (by rw [List.append_nil] at h2; subst h2; simpa [symName] using h3)
      · rintro v vs lm σ' K ⟨rfl, ⟨o, rfl⟩, done, rest, h1, h2, h3⟩ kn kb kr
        cases rest with
        | nil => cases h1
        | cons x rest =>
        obtain ⟨rfl, rfl⟩ := List.cons.inj h1
        rw [upd_lmx]
        repeat' walk_at "w"
        · rename_i hb2
          refine kr _ _ _ ?_
          repeat' walk_at "w"
          refine fin_bool h ?_
          have hx : isSy x = false := by simpa using hb2
          show ((c :: r).all fun c => isSy c) = false
          rw [h2]; simp [hx]
        · rename_i hb2
          refine kn _ _ ⟨rfl, ⟨_, lmx_some⟩, done ++ [x], rest, rfl, by rw [h2]; simp, ?_⟩
          have hx : isSy x = true := by simpa using hb2
          simp_all
      · show _ = List.map _ _
        simp [S]
local macro_rules | `(tactic| walk_at "wc") => `(tactic| first | refine c_codes_text (by assumption) (by assumption) (by assumption) ?_ | refine c_is_alnum_name (by assumption) ?_ | refine c_is_symbol_name (by assumption) ?_)
theorem fourS : strsOf [PV.str (Str.ofString "[]"), PV.str (Str.ofString "{}"), PV.str (Str.ofString "!"), PV.str (Str.ofString ";")] = some (fourL.map S) := by kernel_rfl
theorem mem_S {l : List Nat} {ls : List (List Nat)} : decide (S l ∈ ls.map S) = decide (l ∈ ls) := by
  rw [decide_eq_decide, List.mem_map]
  exact ⟨fun ⟨x, h1, h2⟩ => S_inj.mp h2 ▸ h1, fun h => ⟨l, h, rfl⟩⟩
theorem eq_S {l m : List Nat} : decide (S l = S m) = decide (l = m) := by rw [decide_eq_decide]; exact S_inj
theorem dotS : Str.ofString "." = S [46] := by decide +kernel
theorem remS : Str.ofString "/*" = S [47, 42] := by decide +kernel
theorem emptyS : Str.ofString "" = S [] := by decide +kernel
theorem c_is_plain_name {l : List Nat} (hl : l.length ≤ 1000) (h : Q (.bool (plainL l)) σ) : WCf (n + 80) ⟨kind, d + 4⟩ 103 [.str (S l)] σ Q := by
  refine wcf (f := f_is_plain_name) (lm := upd noLM (Str.ofString "text") (.str (S l))) (by rfl) (by kernel_rfl) ?_
  conv in f_is_plain_name.body => whnf
  repeat' walk_at "w"
  refine ⟨by decide, wc_inT _ fourS ?_⟩
  rw [mem_S]
  repeat' walk_at "w"
  · rename_i hb
    exact fin_bool h (by unfold plainL; rw [hb]; rfl)
  · rename_i hb hb2
    exact fin_bool h (by unfold plainL; rw [hb, hb2]; rfl)
  · rename_i hb hb2 hb3 hb4
    refine fin_bool h ?_
    rw [dotS, eq_S] at hb4
    unfold plainL; rw [hb, hb2, hb3, hb4, remS, starts_S]; rfl
  · rename_i hb hb2 hb3 hb4
    refine fin_bool h ?_
    rw [dotS, eq_S] at hb4
    unfold plainL; rw [hb, hb2, hb3, hb4]; rfl
  · rename_i hb hb2 hb3
    exact fin_bool h (by unfold plainL; rw [hb, hb2, hb3]; rfl)

end
end
section
local macro_rules | `(tactic| walk_at "wc") => `(tactic| first | refine c_is_small ?_ | refine c_is_capital ?_ | refine c_is_digit ?_ | refine c_is_layout ?_ | refine c_is_quotable ?_ | refine c_is_symbol ?_ | refine c_is_alnum ?_ | refine c_digit_value ?_ | refine c_codes_text (by assumption) (by assumption) (by assumption) ?_ | refine c_is_alnum_name (by assumption) ?_ | refine c_is_symbol_name (by assumption) ?_ | refine c_is_plain_name (by assumption) ?_)
section
variable {n d : Nat} {kind : Str → Option NameKind} {σ : Sg} {Q : PV → Sg → Prop}
theorem c_escaped {c : Nat} (hc : c ≤ 1114111) (h : Q (.str (S (escL c))) σ) : WCf (n + 60) ⟨kind, d + 1⟩ 110 [nI c] σ Q := by
  refine wcf (f := f_escaped) (lm := upd noLM (Str.ofString "code") (nI c)) (by rfl) (by kernel_rfl) ?_
  conv in f_escaped.body => whnf
  repeat' walk_at "w"
  all_goals simp only [decide_eq_true_eq, decide_eq_false_iff_not] at *
  · rename_i hb
    refine wf_chrN hc (wb_S bsS rfl (by simp) ?_)
    repeat' walk_at "w"
    exact fin_S h (escL1 (by omega))
  · rename_i hb hb2
    refine wf_chrN hc (wb_S bsS rfl (by simp) ?_)
    repeat' walk_at "w"
    exact fin_S h (escL1 (by omega))
  · refine wi_S escS (j := c - 7) (by omega) (y := [97, 98, 116, 110, 118, 102, 114].getD (c - 7) 0) ?_ (by omega) (wb_S bsS rfl (by simp) ?_)
    · rw [List.getD_eq_getElem?_getD, List.getElem?_eq_getElem (by simp; omega)]; rfl
    repeat' walk_at "w"
    exact fin_S h (escL2 (by omega) (by omega))
  · refine wb_divN (m := 16) (by decide) (by decide) (wi_S hexS rfl (hex_get (by omega)) (by omega) (wb_S bsxS rfl (by simp) ?_))
    repeat' walk_at "w"
    refine wb_modN (m := 16) (by decide) (wi_S hexS rfl (hex_get (by omega)) (by omega) (wb_S rfl rfl (by simp) ?_))
    repeat' walk_at "w"
    refine wb_S rfl bsS (by simp) ?_
    repeat' walk_at "w"
    exact fin_S h (escL3 (by omega) (by omega))
  · refine wb_divN (m := 16) (by decide) (by decide) (wi_S hexS rfl (hex_get (by omega)) (by omega) (wb_S bsxS rfl (by simp) ?_))
    repeat' walk_at "w"
    refine wb_modN (m := 16) (by decide) (wi_S hexS rfl (hex_get (by omega)) (by omega) (wb_S rfl rfl (by simp) ?_))
    repeat' walk_at "w"
    refine wb_S rfl bsS (by simp) ?_
    repeat' walk_at "w"
    exact fin_S h (escL3 (by omega) (by omega))
  · refine wf_chrN hc ?_
    repeat' walk_at "w"
    exact fin_S h (escL4 (by omega) (by omega) (by omega) (by omega))
  · refine wb_divN (m := 16) (by decide) (by decide) (wi_S hexS rfl (hex_get (by omega)) (by omega) (wb_S bsxS rfl (by simp) ?_))
    repeat' walk_at "w"
    refine wb_modN (m := 16) (by decide) (wi_S hexS rfl (hex_get (by omega)) (by omega) (wb_S rfl rfl (by simp) ?_))
    repeat' walk_at "w"
    refine wb_S rfl bsS (by simp) ?_
    repeat' walk_at "w"
    exact fin_S h (escL3 (by omega) (by omega))
  all_goals omega
theorem escL_len (c : Nat) : (escL c).length ≤ 5 := by
  unfold escL
  split
  · simp
  split
  · simp
  split <;> simp
theorem c_quoted_text {l : List Nat} (hl : l.length ≤ 1000) (hc : ∀ c ∈ l, c ≤ 1114111) (h : Q (.str (S (quoL l))) σ) : WCf (n + 90) ⟨kind, d + 2⟩ 117 [.str (S l)] σ Q := by
  refine wcf (f := f_quoted_text) (lm := upd noLM (Str.ofString "text") (.str (S l))) (by rfl) (by kernel_rfl) ?_
  conv in f_quoted_text.body => whnf
  repeat' walk_at "w"
  refine ⟨by decide, fun b hb => ?_⟩
  repeat' walk_at "w"
  refine ⟨_, rfl, by simp; omega, ?_⟩
  refine forW_rule (I := fun vs lm σ' => (∃ o, lm = lmx (upd (upd noLM (Str.ofString "text") (.str (S l))) (Str.ofString "parts") (.ref b)) (Str.ofString "char") o) ∧ ∃ done rest, vs = rest.map (fun c => .str (S [c])) ∧ l = done ++ rest ∧ σ' = sset σ b (.list (([39] :: done.map escL).map fun x => .str (S x)))) ?_ ?_ _ _ _ ⟨⟨none, lmx_none⟩, [], l, ?_, rfl, ?_⟩
  · rintro lm σ' ⟨⟨o, rfl⟩, done, rest, h1, h2, rfl⟩
    have : rest = [] := by simpa using h1.symm
    subst this
    rw [List.append_nil] at h2
    subst h2
    repeat' walk_at "w"
    refine wg_append _ sset_hit ?_
    repeat' walk_at "w"
    refine wm_append _ sset_hit (by simp; omega) ?_
    rw [sset_sset]
    repeat' walk_at "w"
    have e1 : (([39] :: l.map escL).map fun x => PV.str (S x)) ++ [PV.str (Str.ofString "'")] = (([39] :: l.map escL) ++ [[39]]).map fun x => PV.str (S x) := by
      rw [List.map_append, show Str.ofString "'" = S [39] by decide +kernel]; rfl
    rw [e1]
    refine wm_join _ _ sset_hit (strsOf_S _) (by decide +kernel) ?_ ?_
    · have : (((([39] :: l.map escL) ++ [[39]]).map S).map fun (y : Str) => y.length).sum ≤ 5 * (l.length + 2) := by
        rw [List.map_map]
        have : ∀ xs : List (List Nat), (∀ x ∈ xs, x.length ≤ 5) → (xs.map ((fun (y : Str) => y.length) ∘ S)).sum ≤ 5 * xs.length := by
          intro xs
          induction xs with
          | nil => intro _; simp
          | cons a r ih =>
            intro h
            have h1 := h a (.head _)
            have h2 := ih fun x hx => h x (.tail _ hx)
            simp only [List.map_cons, List.sum_cons, List.length_cons, Function.comp, S_len] at *
            omega
        refine Nat.le_trans (this _ fun x hx => ?_) (by simp)
        rcases List.mem_append.mp hx with hx | hx
        · rcases List.mem_cons.mp hx with rfl | hx
          · decide
          · obtain ⟨c, _, rfl⟩ := List.mem_map.mp hx; exact escL_len c
        · rw [List.mem_singleton.mp hx]; decide
      simp only [List.length_map, List.length_append, List.length_cons, List.length_nil] at this ⊢
      omega
    · repeat' walk_at "w"
      refine ret_less σ (sle_sset hb (sle_refl σ)) ?_
      show Q (.str (Txt.join ⟨#[]⟩ _)) σ
      rw [join_S]
      have e2 : (([39] :: l.map escL) ++ [[39]]).flatten = quoL l := by
        unfold quoL; rw [List.flatMap_def]; simp
      rw [e2]; exact h
  · rintro v vs lm σ' K ⟨⟨o, rfl⟩, done, rest, h1, h2, rfl⟩ kn kb kr
    cases rest with
    | nil => cases h1
    | cons x rest =>
    obtain ⟨rfl, rfl⟩ := List.cons.inj h1
    rw [upd_lmx]
    repeat' walk_at "w"
    refine wg_append _ sset_hit ?_
    repeat' walk_at "w"
    refine c_escaped (hc x (by rw [h2]; simp)) ?_
    repeat' walk_at "w"
    refine wm_append _ sset_hit (by have := congrArg List.length h2; simp at this ⊢; omega) ?_
    rw [sset_sset]
    repeat' walk_at "w"
    exact kn _ _ ⟨⟨_, lmx_some⟩, done ++ [x], rest, rfl, by rw [h2]; simp, by simp⟩
  · show _ = List.map _ _
    simp [S]
  · rw [show Str.ofString "'" = S [39] by decide +kernel]; rfl

theorem c_atom_text {s dx tx : Addr} {vs : List PV} {fs : List (Str × PV)} {xs : List PV} {i : Nat} {l : List Nat} {q : Bool} (e1 : σ s = some (.inst 258 dx)) (e2 : σ dx = some (.flds fs)) (e3 : lookF (Str.ofString "texts") fs = some (.ref tx)) (e4 : lookF (Str.ofString "text") fs = none) (e5 : σ tx = some (.list xs)) (e6 : xs[i]? = some (.str (S l)))
    (hv : bindF f_atom_text vs = some (upd (upd (upd noLM (Str.ofString "symbols") (.ref s)) (Str.ofString "a") (nI i)) (Str.ofString "quoted") (.bool q))) (hi : i < 1000000) (hl : l.length ≤ 1000) (hc : ∀ c ∈ l, c ≤ 1114111) (h : Q (.str (S (if q = true then textL l else l))) σ) : WCf (n + 120) ⟨kind, d + 5⟩ 125 vs σ Q := by
  refine wcf (f := f_atom_text) (by rfl) hv ?_
  conv in f_atom_text.body => whnf
  repeat' walk_at "w"
  refine wg_inst 258 dx fs 199 e1 e2 e4 (by kernel_rfl) ?_
  repeat' walk_at "w"
  refine wcf (f := f_Symbols_text) (lm := upd (upd noLM (Str.ofString "self") (.ref s)) (Str.ofString "number") (nI i)) (by rfl) (by kernel_rfl) ?_
  conv in f_Symbols_text.body => whnf
  repeat' walk_at "w"
  refine wa_ 258 dx fs _ e1 e2 (by kernel_rfl) e3 rfl ?_
  repeat' walk_at "w"
  refine wi_list xs _ e5 (Int.natCast_nonneg i) (by omega) (by rw [Int.toNat_natCast]; exact e6) ?_
  repeat' walk_at "w"
  refine ret_same ?_
  repeat' walk_at "w"
  · rename_i hb hb2
    have : plainL l = false := by simpa using hb2
    refine c_quoted_text hl hc ?_
    repeat' walk_at "w"
    exact fin_S h (by unfold textL; rw [hb, this]; rfl)
  · rename_i hb hb2
    have : plainL l = true := by simpa using hb2
    exact fin_S h (by unfold textL; rw [hb, this]; rfl)
  · rename_i hb
    exact fin_S h (by rw [hb]; rfl)
end
end
section
/-- a table of symbols -/
structure Sym (σ : Sg) (s dx tx an fx fd : Addr) (ts : List Str) (K : Nat) : Prop where
  hs : σ s = some (.inst 258 dx)
  hdx : σ dx = some (.flds [(Str.ofString "texts", .ref tx), (Str.ofString "atom_numbers", .ref an), (Str.ofString "functors", .ref fx), (Str.ofString "functor_numbers", .ref fd)])
  htx : σ tx = some (.list (ts.map .str))
  han : σ an = some .edict ∨ ∃ m f, σ an = some (.sdict m f) ∧ m ≤ ts.length ∧ ∀ x v, f x = some v → ∃ i : Nat, v = nI i ∧ ts[i]? = some x
  hfx : ∃ ys, σ fx = some (.list ys) ∧ ys.length ≤ K
  hfd : σ fd = some .edict ∨ ∃ m f, σ fd = some (.tdict m f) ∧ m ≤ K ∧ ∀ x v, f x = some v → ∃ i : Int, v = .int i
  ne : tx ≠ an ∧ tx ≠ fx ∧ tx ≠ fd ∧ an ≠ fx ∧ an ≠ fd ∧ fx ≠ fd ∧ tx ≠ s ∧ tx ≠ dx ∧ an ≠ s ∧ an ≠ dx ∧ fx ≠ s ∧ fx ≠ dx ∧ fd ≠ s ∧ fd ≠ dx
section
variable {n d : Nat} {kind : Str → Option NameKind} {σ : Sg} {Q : PV → Sg → Prop} {s dx tx an fx fd : Addr} {ts : List Str} {K : Nat}
theorem Sym.put {x : Str} {m : Nat} {f : Str → Option PV} (Y : Sym σ s dx tx an fx fd ts K) (hm : m ≤ ts.length) (hf : ∀ y v, f y = some v → ∃ i : Nat, v = nI i ∧ ts[i]? = some y) :
    Sym (sset (sset σ tx (.list (ts.map .str ++ [.str x]))) an (.sdict (m + 1) fun y => if y = x then some (nI ts.length) else f y)) s dx tx an fx fd (ts ++ [x]) K := by
  obtain ⟨n1, n2, n3, n4, n5, n6, n7, n8, n9, n10, n11, n12, n13, n14⟩ := Y.ne
  refine ⟨sset_miss n9.symm (sset_miss n7.symm Y.hs), sset_miss n10.symm (sset_miss n8.symm Y.hdx), sset_miss n1 (by rw [List.map_append]; exact sset_hit), .inr ⟨_, _, sset_hit, by simpa using hm, fun y v e => ?_⟩, ?_, ?_, Y.ne⟩
  · by_cases q : y = x
    · rw [if_pos q] at e; cases e
      exact ⟨ts.length, rfl, by simp [q]⟩
    · rw [if_neg q] at e
      obtain ⟨i, h1, h2⟩ := hf y v e
      exact ⟨i, h1, by rw [List.getElem?_append_left (List.getElem?_eq_some_iff.mp h2).1]; exact h2⟩
  · obtain ⟨ys, e, hy⟩ := Y.hfx
    exact ⟨ys, sset_miss n4.symm (sset_miss n2.symm e), hy⟩
  · refine Y.hfd.imp (fun e => sset_miss n5.symm (sset_miss n3.symm e)) ?_
    rintro ⟨m, f, e, r⟩
    exact ⟨m, f, sset_miss n5.symm (sset_miss n3.symm e), r⟩
theorem c_atom {x : Str} (Y : Sym σ s dx tx an fx fd ts K) (hlen : ts.length ≤ 1000)
    (h : ∀ σ' ts' i, Sym σ' s dx tx an fx fd ts' K → ts'[i]? = some x → ts'.length ≤ ts.length + 1 → i < 1001 → (∀ a, a ≠ tx → a ≠ an → σ' a = σ a) → Q (nI i) σ') : WCf (n + 40) ⟨kind, d + 1⟩ 192 [.ref s, .str x] σ Q := by
  refine wcf (f := f_Symbols_atom) (lm := upd (upd noLM (Str.ofString "self") (.ref s)) (Str.ofString "text") (.str x)) (by rfl) (by kernel_rfl) ?_
  conv in f_Symbols_atom.body => whnf
  obtain ⟨n1, n2, n3, n4, n5, n6, n7, n8, n9, n10, n11, n12, n13, n14⟩ := Y.ne
  have fr : ∀ u v a, a ≠ tx → a ≠ an → sset (sset σ tx u) an v a = σ a := fun u v a h1 h2 => sset_miss h2 (sset_miss h1 rfl)
  repeat' walk_at "w"
  refine wa_ 258 dx _ (.ref an) Y.hs Y.hdx (by kernel_rfl) (by kernel_rfl) rfl ?_
  rcases Y.han with ha | ⟨m, f, ha, hm, hf⟩
  · refine wg_get _ ha rfl ?_
    repeat' walk_at "w"
    refine wm_getES ha ?_
    repeat' walk_at "w"
    · rename_i hb; exact absurd hb (by decide)
    refine wa_ 258 dx _ (.ref tx) Y.hs Y.hdx (by kernel_rfl) (by kernel_rfl) rfl ?_
    repeat' walk_at "w"
    refine wf_lenL _ Y.htx (by simp; omega) ?_
    repeat' walk_at "w"
    refine wa_ 258 dx _ (.ref tx) Y.hs Y.hdx (by kernel_rfl) (by kernel_rfl) rfl ?_
    repeat' walk_at "w"
    refine wg_append _ Y.htx ?_
    repeat' walk_at "w"
    refine wm_append _ Y.htx (by simp; omega) ?_
    repeat' walk_at "w"
    refine wa_ 258 dx _ (.ref an) (sset_miss n7.symm Y.hs) (sset_miss n8.symm Y.hdx) (by kernel_rfl) (by kernel_rfl) rfl ?_
    repeat' walk_at "w"
    refine wsi_e (sset_miss n1.symm ha) ?_
    repeat' walk_at "w"
    refine ret_same ?_
    rw [List.length_map]
    exact h _ (ts ++ [x]) ts.length (Y.put (f := fun _ => none) (Nat.zero_le _) (fun _ _ e => nomatch e)) (by simp) (by simp) (by omega) (fr _ _)
  · refine wg_get _ ha rfl ?_
    repeat' walk_at "w"
    refine wm_getS m f ha ?_
    cases hx : f x with
    | some v =>
      obtain ⟨i, rfl, hi⟩ := hf x v hx
      dsimp only [Option.getD]
      repeat' walk_at "w"
      · have := (List.getElem?_eq_some_iff.mp hi).1
        exact ret_same (h σ ts i Y hi (by omega) (by omega) fun _ _ _ => rfl)
      · rename_i hb; exact absurd (of_decide_eq_false hb) (by omega)
    | none =>
      dsimp only [Option.getD]
      repeat' walk_at "w"
      · rename_i hb; exact absurd hb (by decide)
      refine wa_ 258 dx _ (.ref tx) Y.hs Y.hdx (by kernel_rfl) (by kernel_rfl) rfl ?_
      repeat' walk_at "w"
      refine wf_lenL _ Y.htx (by simp; omega) ?_
      repeat' walk_at "w"
      refine wa_ 258 dx _ (.ref tx) Y.hs Y.hdx (by kernel_rfl) (by kernel_rfl) rfl ?_
      repeat' walk_at "w"
      refine wg_append _ Y.htx ?_
      repeat' walk_at "w"
      refine wm_append _ Y.htx (by simp; omega) ?_
      repeat' walk_at "w"
      refine wa_ 258 dx _ (.ref an) (sset_miss n7.symm Y.hs) (sset_miss n8.symm Y.hdx) (by kernel_rfl) (by kernel_rfl) rfl ?_
      repeat' walk_at "w"
      refine wsi_s m f (sset_miss n1.symm ha) (by omega) ?_
      repeat' walk_at "w"
      refine ret_same ?_
      rw [List.length_map]
      exact h _ (ts ++ [x]) ts.length (Y.put hm hf) (by simp) (by simp) (by omega) (fr _ _)
end
end
section
section
variable {n d : Nat} {kind : Str → Option NameKind} {σ : Sg} {Q : PV → Sg → Prop} {s dx tx an fx fd : Addr} {ts : List Str} {K : Nat}
theorem Sym.putF {l : List Int} {m : Nat} {i : Int} {ys : List PV} {f : List Int → Option PV} (Y : Sym σ s dx tx an fx fd ts K) (hy : ys.length ≤ K + 1) (hm : m ≤ K) (hf : ∀ y v, f y = some v → ∃ i : Int, v = .int i) :
    Sym (sset (sset σ fx (.list ys)) fd (.tdict (m + 1) fun y => if y = l then some (.int i) else f y)) s dx tx an fx fd ts (K + 1) := by
  obtain ⟨n1, n2, n3, n4, n5, n6, n7, n8, n9, n10, n11, n12, n13, n14⟩ := Y.ne
  refine ⟨sset_miss n13.symm (sset_miss n11.symm Y.hs), sset_miss n14.symm (sset_miss n12.symm Y.hdx), sset_miss n3 (sset_miss n2 Y.htx), ?_, ⟨ys, sset_miss n6 sset_hit, hy⟩, .inr ⟨_, _, sset_hit, by omega, fun y v e => ?_⟩, Y.ne⟩
  · refine Y.han.imp (fun e => sset_miss n5 (sset_miss n4 e)) ?_
    rintro ⟨m, f, e, r⟩
    exact ⟨m, f, sset_miss n5 (sset_miss n4 e), r⟩
  · split at e
    · cases e; exact ⟨i, rfl⟩
    · exact hf y v e
theorem Sym.more (Y : Sym σ s dx tx an fx fd ts K) : Sym σ s dx tx an fx fd ts (K + 1) :=
  ⟨Y.hs, Y.hdx, Y.htx, Y.han, let ⟨ys, e, h⟩ := Y.hfx; ⟨ys, e, Nat.le_succ_of_le h⟩, Y.hfd.imp id fun ⟨m, f, e, h, r⟩ => ⟨m, f, e, Nat.le_succ_of_le h, r⟩, Y.ne⟩
theorem c_functor {a r : Int} (Y : Sym σ s dx tx an fx fd ts K) (hK : K ≤ 1000)
    (h : ∀ σ' i, Sym σ' s dx tx an fx fd ts (K + 1) → (∀ a, a ≠ fx → a ≠ fd → σ' a = σ a) → Q (.int i) σ') : WCf (n + 40) ⟨kind, d + 1⟩ 206 [.ref s, .int a, .int r] σ Q := by
  refine wcf (f := f_Symbols_functor) (lm := upd (upd (upd noLM (Str.ofString "self") (.ref s)) (Str.ofString "atom") (.int a)) (Str.ofString "arity") (.int r)) (by rfl) (by kernel_rfl) ?_
  conv in f_Symbols_functor.body => whnf
  obtain ⟨n1, n2, n3, n4, n5, n6, n7, n8, n9, n10, n11, n12, n13, n14⟩ := Y.ne
  have fr : ∀ u v a, a ≠ fx → a ≠ fd → sset (sset σ fx u) fd v a = σ a := fun u v a h1 h2 => sset_miss h2 (sset_miss h1 rfl)
  obtain ⟨ys, hys, hyl⟩ := Y.hfx
  repeat' walk_at "w"
  refine ⟨by simp, ?_⟩
  repeat' walk_at "w"
  refine wa_ 258 dx _ (.ref fd) Y.hs Y.hdx (by kernel_rfl) (by kernel_rfl) rfl ?_
  rcases Y.hfd with ha | ⟨m, f, ha, hm, hf⟩
  · refine wg_get _ ha rfl ?_
    repeat' walk_at "w"
    refine wm_getET [a, r] rfl ha ?_
    repeat' walk_at "w"
    · rename_i hb; exact absurd hb (by decide)
    refine wa_ 258 dx _ (.ref fx) Y.hs Y.hdx (by kernel_rfl) (by kernel_rfl) rfl ?_
    repeat' walk_at "w"
    refine wf_lenL _ hys (by omega) ?_
    repeat' walk_at "w"
    refine wa_ 258 dx _ (.ref fx) Y.hs Y.hdx (by kernel_rfl) (by kernel_rfl) rfl ?_
    repeat' walk_at "w"
    refine wg_append _ hys ?_
    repeat' walk_at "w"
    refine wm_append _ hys (by omega) ?_
    repeat' walk_at "w"
    refine wa_ 258 dx _ (.ref fd) (sset_miss n11.symm Y.hs) (sset_miss n12.symm Y.hdx) (by kernel_rfl) (by kernel_rfl) rfl ?_
    repeat' walk_at "w"
    refine wsi_te [a, r] rfl (sset_miss n6.symm ha) ?_
    repeat' walk_at "w"
    exact ret_same (h _ _ (Y.putF (f := fun _ => none) (by simp; omega) (Nat.zero_le _) (fun _ _ e => nomatch e)) (fr _ _))
  · refine wg_get _ ha rfl ?_
    repeat' walk_at "w"
    refine wm_getT m f [a, r] rfl ha ?_
    cases hx : f [a, r] with
    | some v =>
      obtain ⟨i, rfl⟩ := hf _ v hx
      dsimp only [Option.getD]
      repeat' walk_at "w"
      · exact ret_same (h σ i Y.more fun _ _ _ => rfl)
      · refine wa_ 258 dx _ (.ref fx) Y.hs Y.hdx (by kernel_rfl) (by kernel_rfl) rfl ?_
        repeat' walk_at "w"
        refine wf_lenL _ hys (by omega) ?_
        repeat' walk_at "w"
        refine wa_ 258 dx _ (.ref fx) Y.hs Y.hdx (by kernel_rfl) (by kernel_rfl) rfl ?_
        repeat' walk_at "w"
        refine wg_append _ hys ?_
        repeat' walk_at "w"
        refine wm_append _ hys (by omega) ?_
        repeat' walk_at "w"
        refine wa_ 258 dx _ (.ref fd) (sset_miss n11.symm Y.hs) (sset_miss n12.symm Y.hdx) (by kernel_rfl) (by kernel_rfl) rfl ?_
        repeat' walk_at "w"
        refine wsi_t [a, r] m f rfl (sset_miss n6.symm ha) (by omega) ?_
        repeat' walk_at "w"
        exact ret_same (h _ _ (Y.putF (by simp; omega) hm hf) (fr _ _))
    | none =>
      dsimp only [Option.getD]
      repeat' walk_at "w"
      · rename_i hb; exact absurd hb (by decide)
      refine wa_ 258 dx _ (.ref fx) Y.hs Y.hdx (by kernel_rfl) (by kernel_rfl) rfl ?_
      repeat' walk_at "w"
      refine wf_lenL _ hys (by omega) ?_
      repeat' walk_at "w"
      refine wa_ 258 dx _ (.ref fx) Y.hs Y.hdx (by kernel_rfl) (by kernel_rfl) rfl ?_
      repeat' walk_at "w"
      refine wg_append _ hys ?_
      repeat' walk_at "w"
      refine wm_append _ hys (by omega) ?_
      repeat' walk_at "w"
      refine wa_ 258 dx _ (.ref fd) (sset_miss n11.symm Y.hs) (sset_miss n12.symm Y.hdx) (by kernel_rfl) (by kernel_rfl) rfl ?_
      repeat' walk_at "w"
      refine wsi_t [a, r] m f rfl (sset_miss n6.symm ha) (by omega) ?_
      repeat' walk_at "w"
      exact ret_same (h _ _ (Y.putF (by simp; omega) hm hf) (fr _ _))
theorem c_func {x : Str} {r : Int} (Y : Sym σ s dx tx an fx fd ts K) (hlen : ts.length ≤ 1000) (hK : K ≤ 1000)
    (h : ∀ σ' ts' i, Sym σ' s dx tx an fx fd ts' (K + 1) → ts'.length ≤ ts.length + 1 → (∀ a, a ≠ tx → a ≠ an → a ≠ fx → a ≠ fd → σ' a = σ a) → Q (.int i) σ') : WCf (n + 60) ⟨kind, d + 2⟩ 213 [.ref s, .str x, .int r] σ Q := by
  refine wcf (f := f_Symbols_func) (lm := upd (upd (upd noLM (Str.ofString "self") (.ref s)) (Str.ofString "text") (.str x)) (Str.ofString "arity") (.int r)) (by rfl) (by kernel_rfl) ?_
  conv in f_Symbols_func.body => whnf
  repeat' walk_at "w"
  refine wg_inst 258 dx _ 206 Y.hs Y.hdx (by kernel_rfl) (by kernel_rfl) ?_
  repeat' walk_at "w"
  refine wg_inst 258 dx _ 192 Y.hs Y.hdx (by kernel_rfl) (by kernel_rfl) ?_
  repeat' walk_at "w"
  refine c_atom Y hlen fun σ₁ ts₁ i Y₁ _ h1 _ h2 => ?_
  repeat' walk_at "w"
  refine c_functor Y₁ hK fun σ₂ j Y₂ h3 => ?_
  repeat' walk_at "w"
  exact ret_same (h σ₂ ts₁ j Y₂ h1 fun a a1 a2 a3 a4 => (h3 a a3 a4).trans (h2 a a1 a2))

noncomputable def atomsS : List Str := [Str.ofString "[]", Str.ofString ".", Str.ofString "{}", Str.ofString "-", Str.ofString "+", Str.ofString "*", Str.ofString "/", Str.ofString ",", Str.ofString "|", Str.ofString ";", Str.ofString "->", Str.ofString "\\+", Str.ofString ":-", Str.ofString "?-", Str.ofString "-->", Str.ofString "!", Str.ofString "true", Str.ofString "fail", Str.ofString "false", Str.ofString "call", Str.ofString "=", Str.ofString "^", Str.ofString "error", Str.ofString "", Str.ofString "end_of_file", Str.ofString "system", Str.ofString "$VAR", Str.ofString "catch", Str.ofString "throw"]
noncomputable def functorsS : List (Str × Int) := [(Str.ofString ".", 2), (Str.ofString ",", 2), (Str.ofString ";", 2), (Str.ofString "->", 2), (Str.ofString "\\+", 1), (Str.ofString ":-", 2), (Str.ofString ":-", 1), (Str.ofString "?-", 1), (Str.ofString "-->", 2), (Str.ofString "{}", 1), (Str.ofString "=", 2), (Str.ofString "^", 2), (Str.ofString "-", 1), (Str.ofString "-", 2), (Str.ofString "+", 2), (Str.ofString "/", 2), (Str.ofString "error", 2), (Str.ofString "$VAR", 1), (Str.ofString "catch", 3), (Str.ofString "throw", 1), (Str.ofString "!", 0), (Str.ofString "true", 0), (Str.ofString "fail", 0), (Str.ofString "false", 0), (Str.ofString "call", 1), (Str.ofString "call", 2), (Str.ofString "call", 3), (Str.ofString "call", 4), (Str.ofString "call", 5), (Str.ofString "call", 6), (Str.ofString "call", 7), (Str.ofString "call", 8)]
noncomputable def constPV : Expr → Option PV
  | .Constant (.str s) _ _ => some (.str s)
  | .Constant (.int i) _ _ => some (.int i)
  | _ => none
noncomputable def evL (f : Expr → Option PV) : List Expr → Option (List PV)
  | [] => some []
  | e :: r => match f e, evL f r with
    | some v, some vs => some (v :: vs)
    | _, _ => none
noncomputable def rowPV : Expr → Option PV
  | .Tuple es _ _ => if es.length ≤ 3 ∧ noStar es = true then (evL constPV es).map .tup else none
  | e => constPV e
theorem we_const {e : Expr} {v : PV} {c : Cx} {lm : LM} (h0 : constPV e = some v) (h : Q v σ) : WE (n + 1) c e lm σ Q := by
  unfold constPV at h0
  split at h0
  · cases h0; exact h
  · cases h0; exact h
  · cases h0
theorem wl_ev {c : Cx} {lm : LM} {f : Expr → Option PV} {k : Nat} (he : ∀ e v (Q : PV → Sg → Prop), f e = some v → Q v σ → ∀ m, k ≤ m → WE m c e lm σ Q) : ∀ (es : List Expr) (vs : List PV) (G : List PV → Sg → Prop) (m : Nat), evL f es = some vs → es.length + k < m → G vs σ → WL m c es lm σ G
  | [], vs, G, m, h0, hm, h => by
    cases m with
    | zero => omega
    | succ m => cases h0; exact wl_nil h
  | e :: r, vs, G, m, h0, hm, h => by
    cases m with
    | zero => omega
    | succ m =>
    simp only [List.length_cons] at hm
    unfold evL at h0
    split at h0
    · rename_i v vs' e1 e2
      cases h0
      exact wl_cons (he e v _ e1 (wl_ev he r vs' _ m e2 (by omega) h) m (by omega))
    · cases h0
theorem we_row {c : Cx} {lm : LM} (e : Expr) (v : PV) (Q : PV → Sg → Prop) (h0 : rowPV e = some v) (h : Q v σ) (m : Nat) (hm : 6 ≤ m) : WE m c e lm σ Q := by
  obtain ⟨m, rfl⟩ : ∃ m', m = m' + 6 := ⟨m - 6, by omega⟩
  unfold rowPV at h0
  split at h0
  · rename_i es j p
    split at h0
    · rename_i q
      obtain ⟨vs, e1, e2⟩ := Option.map_eq_some_iff.mp h0
      subst e2
      have hl : ∀ (es : List Expr) (vs : List PV), evL constPV es = some vs → vs.length = es.length := by
        intro es
        induction es with
        | nil => intro vs h; cases h; rfl
        | cons a r ih =>
          intro vs h
          unfold evL at h
          split at h
          · rename_i e3 e4; cases h; simp [ih _ e4]
          · cases h
      refine we_tuple q.2 (wl_ev (k := 1) (fun e v Q h0 h m hm => ?_) es vs _ _ e1 (by omega) ⟨by rw [hl _ _ e1]; omega, h⟩)
      obtain ⟨m, rfl⟩ : ∃ m', m = m' + 1 := ⟨m - 1, by omega⟩
      exact we_const h0 h
    · cases h0
  · exact we_const h0 h
theorem evL_len {f : Expr → Option PV} : ∀ {es : List Expr} {vs : List PV}, evL f es = some vs → vs.length = es.length
  | [], vs, h => by cases h; rfl
  | a :: r, vs, h => by
    unfold evL at h
    split at h
    · rename_i e3 e4; cases h; simp [evL_len e4]
    · cases h
noncomputable def retTup : List Stmt → Option (List PV)
  | [.Return (some (.Tuple es _ _)) _] => if noStar es = true then evL rowPV es else none
  | _ => none
theorem wss_tup {c : Cx} {lm : LM} {F : Fl → LM → Sg → Prop} {body : List Stmt} {vs : List PV} (h0 : retTup body = some vs) (h1 : vs.length ≤ 40) (h : F (.ret (.tup vs)) lm σ) : WSS (n + 59) c body lm σ F := by
  unfold retTup at h0
  split at h0
  · rename_i es j p q
    split at h0
    · rename_i hs
      have := evL_len h0
      refine ws_cons (ws_ret (we_tuple hs (wl_ev (k := 6) (fun e v Q h0 h m hm => we_row e v Q h0 h m hm) es vs _ _ h0 (by omega) ⟨by omega, ?_⟩)))
      exact then_ret h
    · cases h0
  · cases h0
theorem c_fixed_atoms (h : Q (.tup (atomsS.map .str)) σ) : WCf (n + 60) ⟨kind, d + 1⟩ 164 [] σ Q :=
  wcf (f := f_fixed_atoms) (lm := noLM) (by rfl) (by kernel_rfl) (wss_tup (by kernel_rfl) (by decide) (ret_same h))
theorem c_fixed_functors (h : Q (.tup (functorsS.map fun p => .tup [.str p.1, .int p.2])) σ) : WCf (n + 60) ⟨kind, d + 1⟩ 171 [] σ Q :=
  wcf (f := f_fixed_functors) (lm := noLM) (by rfl) (by kernel_rfl) (wss_tup (by kernel_rfl) (by decide) (ret_same h))

theorem ne_some {σ : Sg} {a b : Addr} {o : AO} (h1 : σ a = none) (h2 : σ b = some o) : a ≠ b := fun q => by rw [q, h2] at h1; cases h1
theorem ne_some' {σ : Sg} {a b : Addr} {o : AO} (h1 : σ a = none) (h2 : σ b = some o) : b ≠ a := fun q => ne_some h1 h2 q.symm
theorem c_Symbols (hne : s ≠ dx) (hs : σ s = some (.inst 258 dx)) (hdx : σ dx = some (.flds []))
    (h : ∀ σ' tx an fx fd ts', Sym σ' s dx tx an fx fd ts' 100 → ts'.length ≤ 100 → (∀ a o, σ a = some o → a ≠ s → a ≠ dx → σ' a = some o ∧ a ≠ tx ∧ a ≠ an ∧ a ≠ fx ∧ a ≠ fd) → Q .none σ') : WCf (n + 100) ⟨kind, d + 3⟩ 185 [.ref s] σ Q := by
  refine wcf (f := f_Symbols_init) (lm := upd noLM (Str.ofString "self") (.ref s)) (by rfl) (by kernel_rfl) ?_
  conv in f_Symbols_init.body => whnf
  repeat' walk_at "w"
  refine ⟨by decide, fun tx hx => ?_⟩
  have n1 := ne_some' hx hs
  have n2 := ne_some' hx hdx
  repeat' walk_at "w"
  refine wsa_ 258 dx _ (sset_miss n1 hs) (sset_miss n2 hdx) (by kernel_rfl) (by simp) ?_
  repeat' walk_at "w"
  intro an ha
  have hdx1 : sset (sset σ tx (.list [])) dx (.flds (putF (Str.ofString "texts") (.ref tx) [])) dx = some (.flds [(Str.ofString "texts", .ref tx)]) := sset_hit
  have hs1 : sset (sset σ tx (.list [])) dx (.flds (putF (Str.ofString "texts") (.ref tx) [])) s = some (.inst 258 dx) := sset_miss hne (sset_miss n1 hs)
  have htx1 : sset (sset σ tx (.list [])) dx (.flds (putF (Str.ofString "texts") (.ref tx) [])) tx = some (.list []) := sset_miss n2.symm sset_hit
  have hk1 : ∀ a o, σ a = some o → a ≠ s → a ≠ dx → sset (sset σ tx (.list [])) dx (.flds (putF (Str.ofString "texts") (.ref tx) [])) a = some o := fun a o e h1 h2 => sset_miss h2 (sset_miss (ne_some' hx e) e)
  generalize sset (sset σ tx (.list [])) dx (.flds (putF (Str.ofString "texts") (.ref tx) [])) = σ₁ at ha hdx1 hs1 htx1 hk1 ⊢
  have n3 := ne_some' ha hs1
  have n4 := ne_some' ha hdx1
  have n5 := ne_some' ha htx1
  repeat' walk_at "w"
  refine wsa_ 258 dx _ (sset_miss n3 hs1) (sset_miss n4 hdx1) (by kernel_rfl) (by simp) ?_
  repeat' walk_at "w"
  refine ⟨by decide, fun fx hf => ?_⟩
  have hp2 : putF (Str.ofString "atom_numbers") (.ref an) [(Str.ofString "texts", .ref tx)] = [(Str.ofString "texts", .ref tx), (Str.ofString "atom_numbers", .ref an)] := by kernel_rfl
  rw [hp2] at hf ⊢
  have hdx2 : sset (sset σ₁ an .edict) dx (.flds [(Str.ofString "texts", .ref tx), (Str.ofString "atom_numbers", .ref an)]) dx = some (.flds [(Str.ofString "texts", .ref tx), (Str.ofString "atom_numbers", .ref an)]) := sset_hit
  have hs2 : sset (sset σ₁ an .edict) dx (.flds [(Str.ofString "texts", .ref tx), (Str.ofString "atom_numbers", .ref an)]) s = some (.inst 258 dx) := sset_miss hne (sset_miss n3 hs1)
  have htx2 : sset (sset σ₁ an .edict) dx (.flds [(Str.ofString "texts", .ref tx), (Str.ofString "atom_numbers", .ref an)]) tx = some (.list []) := sset_miss n2.symm (sset_miss n5 htx1)
  have han2 : sset (sset σ₁ an .edict) dx (.flds [(Str.ofString "texts", .ref tx), (Str.ofString "atom_numbers", .ref an)]) an = some .edict := sset_miss n4.symm sset_hit
  have hk2 : ∀ a o, σ a = some o → a ≠ s → a ≠ dx → sset (sset σ₁ an .edict) dx (.flds [(Str.ofString "texts", .ref tx), (Str.ofString "atom_numbers", .ref an)]) a = some o := fun a o e h1 h2 => sset_miss h2 (sset_miss (ne_some' ha (hk1 a o e h1 h2)) (hk1 a o e h1 h2))
  generalize sset (sset σ₁ an .edict) dx (.flds [(Str.ofString "texts", .ref tx), (Str.ofString "atom_numbers", .ref an)]) = σ₂ at hf hdx2 hs2 htx2 han2 hk2 ⊢
  have n6 := ne_some' hf hs2
  have n7 := ne_some' hf hdx2
  have n8 := ne_some' hf htx2
  have n9 := ne_some' hf han2
  repeat' walk_at "w"
  refine wsa_ 258 dx _ (sset_miss n6 hs2) (sset_miss n7 hdx2) (by kernel_rfl) (by simp) ?_
  repeat' walk_at "w"
  intro fd hd
  have hp3 : putF (Str.ofString "functors") (.ref fx) [(Str.ofString "texts", .ref tx), (Str.ofString "atom_numbers", .ref an)] = [(Str.ofString "texts", .ref tx), (Str.ofString "atom_numbers", .ref an), (Str.ofString "functors", .ref fx)] := by kernel_rfl
  rw [hp3] at hd ⊢
  have hdx3 : sset (sset σ₂ fx (.list [])) dx (.flds [(Str.ofString "texts", .ref tx), (Str.ofString "atom_numbers", .ref an), (Str.ofString "functors", .ref fx)]) dx = some (.flds [(Str.ofString "texts", .ref tx), (Str.ofString "atom_numbers", .ref an), (Str.ofString "functors", .ref fx)]) := sset_hit
  have hs3 : sset (sset σ₂ fx (.list [])) dx (.flds [(Str.ofString "texts", .ref tx), (Str.ofString "atom_numbers", .ref an), (Str.ofString "functors", .ref fx)]) s = some (.inst 258 dx) := sset_miss hne (sset_miss n6 hs2)
  have htx3 : sset (sset σ₂ fx (.list [])) dx (.flds [(Str.ofString "texts", .ref tx), (Str.ofString "atom_numbers", .ref an), (Str.ofString "functors", .ref fx)]) tx = some (.list []) := sset_miss n2.symm (sset_miss n8 htx2)
  have han3 : sset (sset σ₂ fx (.list [])) dx (.flds [(Str.ofString "texts", .ref tx), (Str.ofString "atom_numbers", .ref an), (Str.ofString "functors", .ref fx)]) an = some .edict := sset_miss n4.symm (sset_miss n9 han2)
  have hfx3 : sset (sset σ₂ fx (.list [])) dx (.flds [(Str.ofString "texts", .ref tx), (Str.ofString "atom_numbers", .ref an), (Str.ofString "functors", .ref fx)]) fx = some (.list []) := sset_miss n7.symm sset_hit
  have hk3 : ∀ a o, σ a = some o → a ≠ s → a ≠ dx → sset (sset σ₂ fx (.list [])) dx (.flds [(Str.ofString "texts", .ref tx), (Str.ofString "atom_numbers", .ref an), (Str.ofString "functors", .ref fx)]) a = some o := fun a o e h1 h2 => sset_miss h2 (sset_miss (ne_some' hf (hk2 a o e h1 h2)) (hk2 a o e h1 h2))
  generalize sset (sset σ₂ fx (.list [])) dx (.flds [(Str.ofString "texts", .ref tx), (Str.ofString "atom_numbers", .ref an), (Str.ofString "functors", .ref fx)]) = σ₃ at hd hdx3 hs3 htx3 han3 hfx3 hk3 ⊢
  have n10 := ne_some' hd hs3
  have n11 := ne_some' hd hdx3
  have n12 := ne_some' hd htx3
  have n13 := ne_some' hd han3
  have n14 := ne_some' hd hfx3
  repeat' walk_at "w"
  refine wsa_ 258 dx _ (sset_miss n10 hs3) (sset_miss n11 hdx3) (by kernel_rfl) (by simp) ?_
  have hp4 : putF (Str.ofString "functor_numbers") (.ref fd) [(Str.ofString "texts", .ref tx), (Str.ofString "atom_numbers", .ref an), (Str.ofString "functors", .ref fx)] = [(Str.ofString "texts", .ref tx), (Str.ofString "atom_numbers", .ref an), (Str.ofString "functors", .ref fx), (Str.ofString "functor_numbers", .ref fd)] := by kernel_rfl
  rw [hp4]
  have Y0 : Sym (sset (sset σ₃ fd .edict) dx (.flds [(Str.ofString "texts", .ref tx), (Str.ofString "atom_numbers", .ref an), (Str.ofString "functors", .ref fx), (Str.ofString "functor_numbers", .ref fd)])) s dx tx an fx fd [] 0 :=
    ⟨sset_miss hne (sset_miss n10 hs3), sset_hit, sset_miss n2.symm (sset_miss n12 htx3), .inl (sset_miss n4.symm (sset_miss n13 han3)), ⟨[], sset_miss n7.symm (sset_miss n14 hfx3), Nat.le_refl _⟩, .inl (sset_miss n11.symm sset_hit),
      n5, n8, n12, n9, n13, n14, n1.symm, n2.symm, n3.symm, n4.symm, n6.symm, n7.symm, n10.symm, n11.symm⟩
  have hk4 : ∀ a o, σ a = some o → a ≠ s → a ≠ dx → (sset (sset σ₃ fd .edict) dx (.flds [(Str.ofString "texts", .ref tx), (Str.ofString "atom_numbers", .ref an), (Str.ofString "functors", .ref fx), (Str.ofString "functor_numbers", .ref fd)])) a = some o ∧ a ≠ tx ∧ a ≠ an ∧ a ≠ fx ∧ a ≠ fd := fun a o e h1 h2 =>
    ⟨sset_miss h2 (sset_miss (ne_some' hd (hk3 a o e h1 h2)) (hk3 a o e h1 h2)), ne_some' hx e, ne_some' ha (hk1 a o e h1 h2), ne_some' hf (hk2 a o e h1 h2), ne_some' hd (hk3 a o e h1 h2)⟩
  generalize sset (sset σ₃ fd .edict) dx (.flds [(Str.ofString "texts", .ref tx), (Str.ofString "atom_numbers", .ref an), (Str.ofString "functors", .ref fx), (Str.ofString "functor_numbers", .ref fd)]) = σ₄ at Y0 hk4 ⊢
  repeat' walk_at "w"
  refine c_fixed_atoms ?_
  refine ⟨_, rfl, by decide, ?_⟩
  refine forW_rule (I := fun vs lm σ' => (∃ o, lm = lmx (upd noLM (Str.ofString "self") (.ref s)) (Str.ofString "text") o) ∧ ∃ rest ts, vs = rest.map .str ∧ Sym σ' s dx tx an fx fd ts 0 ∧ ts.length + rest.length ≤ 29 ∧ ∀ a, a ≠ tx → a ≠ an → a ≠ fx → a ≠ fd → σ' a = σ₄ a) ?_ ?_ _ _ _ ⟨⟨none, lmx_none⟩, atomsS, [], rfl, Y0, by decide, fun _ _ _ _ _ => rfl⟩
  · rintro lm σ' ⟨⟨o, rfl⟩, rest, ts, h1, Y, h2, h3⟩
    repeat' walk_at "w"
    refine c_fixed_functors ?_
    refine ⟨_, rfl, by decide, ?_⟩
    refine forW_rule (I := fun vs lm σ' => (∃ o2, lm = lmx (lmx (upd noLM (Str.ofString "self") (.ref s)) (Str.ofString "text") o) (Str.ofString "row") o2) ∧ ∃ rest ts K, vs = rest.map (fun (p : Str × Int) => .tup [.str p.1, .int p.2]) ∧ Sym σ' s dx tx an fx fd ts K ∧ ts.length + rest.length ≤ 61 ∧ K + rest.length ≤ 32 ∧ ∀ a, a ≠ tx → a ≠ an → a ≠ fx → a ≠ fd → σ' a = σ₄ a) ?_ ?_ _ _ _ ⟨⟨none, lmx_none⟩, functorsS, ts, 0, rfl, Y, by have : functorsS.length = 32 := rfl; omega, by decide, h3⟩
    · rintro lm σ' ⟨⟨o2, rfl⟩, rest, ts, K, h1, Y, h2, h4, h3⟩
      repeat' walk_at "w"
      refine end_same ?_
      have Y' : ∀ j, Sym σ' s dx tx an fx fd ts (K + j) := fun j => by induction j with | zero => exact Y | succ j ih => exact ih.more
      refine h σ' tx an fx fd ts (by have := Y' (100 - K); rwa [show K + (100 - K) = 100 by omega] at this) (by omega) fun a o e h1 h2 => ?_
      obtain ⟨q0, q1, q2, q3, q4⟩ := hk4 a o e h1 h2
      exact ⟨(h3 a q1 q2 q3 q4).trans q0, q1, q2, q3, q4⟩
    · rintro v vs lm σ' K' ⟨⟨o2, rfl⟩, rest, ts, K, h1, Y, h2, h4, h3⟩ kn kb kr
      cases rest with
      | nil => cases h1
      | cons x rest =>
      obtain ⟨rfl, rfl⟩ := List.cons.inj h1
      simp only [List.length_cons] at h2 h4
      rw [upd_lmx]
      repeat' walk_at "w"
      refine wg_inst 258 dx _ 213 Y.hs Y.hdx (by kernel_rfl) (by kernel_rfl) ?_
      repeat' walk_at "w"
      refine wi_tup _ (by decide) (by decide) rfl ?_
      repeat' walk_at "w"
      refine wi_tup _ (by decide) (by decide) rfl ?_
      repeat' walk_at "w"
      refine c_func Y (by omega) (by omega) fun σ₅ ts₅ i Y₅ h5 h6 => ?_
      repeat' walk_at "w"
      exact kn _ _ ⟨⟨_, lmx_some⟩, rest, ts₅, K + 1, rfl, Y₅, by omega, by omega, fun a a1 a2 a3 a4 => (h6 a a1 a2 a3 a4).trans (h3 a a1 a2 a3 a4)⟩
  · rintro v vs lm σ' K' ⟨⟨o, rfl⟩, rest, ts, h1, Y, h2, h3⟩ kn kb kr
    cases rest with
    | nil => cases h1
    | cons x rest =>
    obtain ⟨rfl, rfl⟩ := List.cons.inj h1
    simp only [List.length_cons] at h2
    rw [upd_lmx]
    repeat' walk_at "w"
    refine wg_inst 258 dx _ 192 Y.hs Y.hdx (by kernel_rfl) (by kernel_rfl) ?_
    repeat' walk_at "w"
    refine c_atom Y (by omega) fun σ₅ ts₅ i Y₅ _ h5 _ h6 => ?_
    repeat' walk_at "w"
    exact kn _ _ ⟨⟨_, lmx_some⟩, rest, ts₅, rfl, Y₅, by omega, fun a a1 a2 a3 a4 => (h6 a a1 a2).trans (h3 a a1 a2 a3 a4)⟩
end
end
section
local macro_rules | `(tactic| walk_at "wc") => `(tactic| first | refine c_is_small ?_ | refine c_is_capital ?_ | refine c_is_digit ?_ | refine c_is_layout ?_ | refine c_is_quotable ?_ | refine c_is_symbol ?_ | refine c_is_alnum ?_ | refine c_digit_value ?_)
/-- a tokenizer at a place -/
structure Tk (σ : Sg) (t dt cl : Addr) (cs : List Nat) (i : Nat) : Prop where
  ht : σ t = some (.inst 413 dt)
  hdt : σ dt = some (.flds [(Str.ofString "codes", .ref cl), (Str.ofString "at", nI i), (Str.ofString "origin", .int 0)])
  hcl : σ cl = some (.list (cs.map nI))
  ok : ∀ c ∈ cs, c ≤ 1114111
  len : cs.length ≤ 1000
  ne : t ≠ dt ∧ cl ≠ dt
noncomputable def codeAt (cs : List Nat) (j : Nat) : Int := match cs[j]? with
  | some c => (c : Int)
  | none => -1
noncomputable def fldT (cl : Addr) (i : Nat) : AO := .flds [(Str.ofString "codes", .ref cl), (Str.ofString "at", nI i), (Str.ofString "origin", .int 0)]
section
variable {n d : Nat} {kind : Str → Option NameKind} {σ : Sg} {Q : PV → Sg → Prop} {t dt cl : Addr} {cs : List Nat} {i : Nat}
theorem Tk.move {j : Nat} (Y : Tk σ t dt cl cs i) : Tk (sset σ dt (fldT cl j)) t dt cl cs j := ⟨sset_miss Y.ne.1 Y.ht, sset_hit, sset_miss Y.ne.2 Y.hcl, Y.ok, Y.len, Y.ne⟩
theorem c_code_at {x : Int} {j : Nat} (Y : Tk σ t dt cl cs i) (hx : x = (j : Int)) (hj : j < 2 ^ 60) (h : Q (.int (codeAt cs j)) σ) : WCf (n + 40) ⟨kind, d + 1⟩ 298 [.ref t, .int x] σ Q := by
  subst hx
  refine wcf (f := f_Tokenizer_code_at) (lm := upd (upd noLM (Str.ofString "self") (.ref t)) (Str.ofString "index") (nI j)) (by rfl) (by kernel_rfl) ?_
  conv in f_Tokenizer_code_at.body => whnf
  have hl := Y.len
  repeat' walk_at "w"
  refine wa_ 413 dt _ (.ref cl) Y.ht Y.hdt (by kernel_rfl) (by kernel_rfl) rfl ?_
  repeat' walk_at "w"
  refine wf_lenL _ Y.hcl (by simp; omega) ?_
  repeat' walk_at "w"
  · rename_i hb
    have hb := of_decide_eq_true hb
    refine fin_int h ?_
    unfold codeAt
    rw [List.getElem?_eq_none (by simpa using hb)]
  · rename_i hb
    have hb := of_decide_eq_false hb
    have hlt : j < cs.length := by simpa using hb
    refine wa_ 413 dt _ (.ref cl) Y.ht Y.hdt (by kernel_rfl) (by kernel_rfl) rfl ?_
    repeat' walk_at "w"
    refine wi_list _ (nI cs[j]) Y.hcl (Int.natCast_nonneg j) (by omega) (by rw [Int.toNat_natCast]; simp [hlt]) ?_
    have hc := Y.ok cs[j] (List.getElem_mem hlt)
    repeat' walk_at "w"
    · rename_i hb; have := of_decide_eq_true hb; omega
    · rename_i hb; have := of_decide_eq_true hb; omega
    · refine fin_int h ?_
      unfold codeAt
      rw [List.getElem?_eq_getElem hlt]

theorem c_skip {x : Int} (Y : Tk σ t dt cl cs i) (hi : i < 2 ^ 50) (e : codeAt cs i = x) (h1 : isLy x = false) (h2 : x ≠ 37) (h3 : x = 47 → codeAt cs (i + 1) ≠ 42) (h : Q .none σ) : WCf (n + 80) ⟨kind, d + 2⟩ 333 [.ref t] σ Q := by
  refine wcf (f := f_Tokenizer_skip_layout) (lm := upd noLM (Str.ofString "self") (.ref t)) (by rfl) (by kernel_rfl) ?_
  conv in f_Tokenizer_skip_layout.body => whnf
  repeat' walk_at "w"
  refine wg_inst 413 dt _ 298 Y.ht Y.hdt (by kernel_rfl) (by kernel_rfl) ?_
  repeat' walk_at "w"
  refine wa_ 413 dt _ (nI i) Y.ht Y.hdt (by kernel_rfl) (by kernel_rfl) rfl ?_
  repeat' walk_at "w"
  refine c_code_at Y rfl (by omega) ?_
  rw [e]
  repeat' walk_at "w"
  · rename_i hb; rw [h1] at hb; cases hb
  · rename_i hb; exact absurd (of_decide_eq_true hb) h2
  · rename_i hb
    refine wg_inst 413 dt _ 298 Y.ht Y.hdt (by kernel_rfl) (by kernel_rfl) ?_
    repeat' walk_at "w"
    refine wa_ 413 dt _ (nI i) Y.ht Y.hdt (by kernel_rfl) (by kernel_rfl) rfl ?_
    repeat' walk_at "w"
    refine c_code_at (j := i + 1) Y rfl (by omega) ?_
    repeat' walk_at "w"
    · rename_i hb2; exact absurd (of_decide_eq_true hb2) (h3 (of_decide_eq_true hb))
    · exact ret_same h
  · exact ret_same h

theorem c_ends_at {x : Int} {j : Nat} (Y : Tk σ t dt cl cs i) (hx : x = (j : Int)) (hj : j < 2 ^ 50) (h : Q (.bool (decide (codeAt cs j = -1) || (decide (codeAt cs j = 37) || isLy (codeAt cs j)))) σ) : WCf (n + 80) ⟨kind, d + 2⟩ 368 [.ref t, .int x] σ Q := by
  refine wcf (f := f_Tokenizer_ends_at) (lm := upd (upd noLM (Str.ofString "self") (.ref t)) (Str.ofString "index") (.int x)) (by rfl) (by kernel_rfl) ?_
  conv in f_Tokenizer_ends_at.body => whnf
  repeat' walk_at "w"
  refine wg_inst 413 dt _ 298 Y.ht Y.hdt (by kernel_rfl) (by kernel_rfl) ?_
  repeat' walk_at "w"
  refine c_code_at Y hx (by omega) ?_
  repeat' walk_at "w"
  all_goals exact fin_bool h (by walk_at "wx")
noncomputable def simpE (c : Nat) : Int := if Txt.contains (Str.ofString "\\'\"`") (S [c]) = true then (c : Int) else if decide (0 ≤ Txt.find (Str.ofString "abtnvfr") (S [c])) = true then 7 + Txt.find (Str.ofString "abtnvfr") (S [c]) else -1
theorem c_simple_escape {c : Nat} (hc : c ≤ 1114111) (h : Q (.int (simpE c)) σ) : WCf (n + 40) ⟨kind, d + 1⟩ 269 [nI c] σ Q := by
  refine wcf (f := f_simple_escape) (lm := upd noLM (Str.ofString "code") (nI c)) (by rfl) (by kernel_rfl) ?_
  conv in f_simple_escape.body => whnf
  repeat' walk_at "w"
  rw [if_neg (by omega)]
  refine wf_chrN hc ?_
  repeat' walk_at "w"
  · rename_i hb
    exact fin_int h (by unfold simpE; rw [if_pos hb])
  · rename_i hb hb2
    exact fin_int h (by unfold simpE; rw [if_neg (by rw [hb]; decide), if_pos hb2])
  · rename_i hb hb2
    exact fin_int h (by unfold simpE; rw [if_neg (by rw [hb]; decide), if_neg (by rw [hb2]; decide)])
theorem take_nI {cs : List Nat} {a b : Nat} : ((cs.map nI).take b).drop a = ((cs.take b).drop a).map nI := by rw [← List.map_take, ← List.map_drop]
theorem c_word {b : Nat} (Y : Tk σ t dt cl cs i) (hib : i ≤ b) (hb : b ≤ cs.length) (hk : b - i ≤ 20) (h1 : ∀ j, i ≤ j → j < b → isAl (codeAt cs j) = true) (h2 : isAl (codeAt cs b) = false)
    (h : Q (.str (S ((cs.take b).drop i))) (sset σ dt (fldT cl b))) : WCf (n + 120) ⟨kind, d + 3⟩ 354 [.ref t, nI i] σ Q := by
  refine wcf (f := f_Tokenizer_word) (lm := upd (upd noLM (Str.ofString "self") (.ref t)) (Str.ofString "at") (nI i)) (by rfl) (by kernel_rfl) ?_
  conv in f_Tokenizer_word.body => whnf
  have hl := Y.len
  iterate 5 walk_at "w"
  have e1 : n + 117 = n + (20 - (b - i)) + 96 + 1 + (b - i) := by omega
  rw [e1]
  refine while_rule (fun k lm σ' => σ' = σ ∧ ∃ j, j + k = b ∧ i ≤ j ∧ lm = upd (upd (upd noLM (Str.ofString "self") (.ref t)) (Str.ofString "at") (nI i)) (Str.ofString "end") (nI j)) 96 ?_ ?_ (b - i) _ σ _ ⟨rfl, i, by omega, Nat.le_refl _, rfl⟩
  · rintro k lm σ' m ⟨rfl, j, hj, hij, rfl⟩ ih
    repeat' walk_at "w"
    refine wg_inst 413 dt _ 298 Y.ht Y.hdt (by kernel_rfl) (by kernel_rfl) ?_
    repeat' walk_at "w"
    refine c_code_at Y rfl (by omega) ?_
    repeat' walk_at "w"
    · refine turn_next (ih _ _ ⟨rfl, j + 1, by omega, by omega, ?_⟩)
      rw [upd_upd]; rfl
    · rename_i hb2; rw [h1 j hij (by omega)] at hb2; cases hb2
  · rintro lm σ' m ⟨rfl, j, hj, hij, rfl⟩
    have : j = b := by omega
    subst this
    rw [← e1]
    repeat' walk_at "w"
    refine wg_inst 413 dt _ 298 Y.ht Y.hdt (by kernel_rfl) (by kernel_rfl) ?_
    repeat' walk_at "w"
    refine c_code_at Y rfl (by omega) ?_
    repeat' walk_at "w"
    · rename_i hb2; rw [h2] at hb2; cases hb2
    refine wsa_ 413 dt _ Y.ht Y.hdt (by kernel_rfl) (by simp) ?_
    have hp : putF (Str.ofString "at") (nI j) [(Str.ofString "codes", .ref cl), (Str.ofString "at", nI i), (Str.ofString "origin", .int 0)] = [(Str.ofString "codes", .ref cl), (Str.ofString "at", nI j), (Str.ofString "origin", .int 0)] := by kernel_rfl
    rw [hp]
    have Y' := Y.move (j := j)
    repeat' walk_at "w"
    refine wa_ 413 dt _ (.ref cl) Y'.ht Y'.hdt (by kernel_rfl) (by kernel_rfl) rfl ?_
    repeat' walk_at "w"
    refine wcut_list _ Y'.hcl (Int.natCast_nonneg i) (by omega) (by omega) (by simp; omega) (by simp; omega) fun b' hb' => ?_
    rw [Int.toNat_natCast, Int.toNat_natCast, take_nI]
    repeat' walk_at "w"
    refine c_codes_text sset_hit (fun c hc => Y.ok c (List.mem_of_mem_take (List.mem_of_mem_drop hc))) (by simp; omega) ?_
    repeat' walk_at "w"
    exact ret_less _ (sle_sset hb' (sle_refl _)) h
end
end
section
local macro_rules | `(tactic| walk_at "wc") => `(tactic| first | refine c_is_small ?_ | refine c_is_capital ?_ | refine c_is_digit ?_ | refine c_is_layout ?_ | refine c_is_quotable ?_ | refine c_is_symbol ?_ | refine c_is_alnum ?_ | refine c_digit_value ?_)
section
variable {n d : Nat} {kind : Str → Option NameKind} {σ : Sg} {Q : PV → Sg → Prop} {t dt cl : Addr} {cs : List Nat} {i : Nat}
theorem put_at {j : Nat} : putF (Str.ofString "at") (nI j) [(Str.ofString "codes", .ref cl), (Str.ofString "at", nI i), (Str.ofString "origin", .int 0)] = [(Str.ofString "codes", .ref cl), (Str.ofString "at", nI j), (Str.ofString "origin", .int 0)] := by kernel_rfl
theorem c_symbol {b : Nat} (Y : Tk σ t dt cl cs i) (hib : i ≤ b) (hb : b ≤ cs.length) (hk : b - i ≤ 20) (h1 : ∀ j, i ≤ j → j < b → isSy (codeAt cs j) = true) (h2 : isSy (codeAt cs b) = false)
    (h3 : codeAt cs i = 46 → (decide (codeAt cs (i + 1) = -1) || (decide (codeAt cs (i + 1) = 37) || isLy (codeAt cs (i + 1)))) = false)
    (h : Q (.tup [.str (Str.ofString "name"), .str (S ((cs.take b).drop i)), nI i]) (sset σ dt (fldT cl b))) : WCf (n + 120) ⟨kind, d + 3⟩ 361 [.ref t, nI i] σ Q := by
  refine wcf (f := f_Tokenizer_symbol) (lm := upd (upd noLM (Str.ofString "self") (.ref t)) (Str.ofString "at") (nI i)) (by rfl) (by kernel_rfl) ?_
  conv in f_Tokenizer_symbol.body => whnf
  have hl := Y.len
  refine ws_cons (ws_if ?_)
  have go : WSS (n + 118) ⟨f_Tokenizer_symbol.kind, d + 2⟩ (f_Tokenizer_symbol.body.drop 1) (upd (upd noLM (Str.ofString "self") (.ref t)) (Str.ofString "at") (nI i)) σ (retW Q) := by
    conv in List.drop _ _ => whnf
    iterate 5 walk_at "w"
    have e1 : n + 116 = n + (20 - (b - i)) + 95 + 1 + (b - i) := by omega
    rw [e1]
    refine while_rule (fun k lm σ' => σ' = σ ∧ ∃ j, j + k = b ∧ i ≤ j ∧ lm = upd (upd (upd noLM (Str.ofString "self") (.ref t)) (Str.ofString "at") (nI i)) (Str.ofString "end") (nI j)) 95 ?_ ?_ (b - i) _ σ _ ⟨rfl, i, by omega, Nat.le_refl _, rfl⟩
    · rintro k lm σ' m ⟨rfl, j, hj, hij, rfl⟩ ih
      repeat' walk_at "w"
      refine wg_inst 413 dt _ 298 Y.ht Y.hdt (by kernel_rfl) (by kernel_rfl) ?_
      repeat' walk_at "w"
      refine c_code_at Y rfl (by omega) ?_
      repeat' walk_at "w"
      · refine turn_next (ih _ _ ⟨rfl, j + 1, by omega, by omega, ?_⟩)
        rw [upd_upd]; rfl
      · rename_i hb2; rw [h1 j hij (by omega)] at hb2; cases hb2
    · rintro lm σ' m ⟨rfl, j, hj, hij, rfl⟩
      have : j = b := by omega
      subst this
      rw [← e1]
      repeat' walk_at "w"
      refine wg_inst 413 dt _ 298 Y.ht Y.hdt (by kernel_rfl) (by kernel_rfl) ?_
      repeat' walk_at "w"
      refine c_code_at Y rfl (by omega) ?_
      repeat' walk_at "w"
      · rename_i hb2; rw [h2] at hb2; cases hb2
      refine wsa_ 413 dt _ Y.ht Y.hdt (by kernel_rfl) (by simp) ?_
      rw [put_at]
      have Y' := Y.move (j := j)
      repeat' walk_at "w"
      refine wa_ 413 dt _ (.ref cl) Y'.ht Y'.hdt (by kernel_rfl) (by kernel_rfl) rfl ?_
      repeat' walk_at "w"
      refine wcut_list _ Y'.hcl (Int.natCast_nonneg i) (by omega) (by omega) (by simp; omega) (by simp; omega) fun b' hb' => ?_
      rw [Int.toNat_natCast, Int.toNat_natCast, take_nI]
      repeat' walk_at "w"
      refine c_codes_text sset_hit (fun c hc => Y.ok c (List.mem_of_mem_take (List.mem_of_mem_drop hc))) (by simp; omega) ?_
      repeat' walk_at "w"
      refine ⟨by simp, ?_⟩
      repeat' walk_at "w"
      exact ret_less _ (sle_sset hb' (sle_refl _)) h
  conv at go in List.drop _ _ => whnf
  repeat' walk_at "w"
  refine wg_inst 413 dt _ 298 Y.ht Y.hdt (by kernel_rfl) (by kernel_rfl) ?_
  repeat' walk_at "w"
  refine c_code_at Y rfl (by omega) ?_
  repeat' (first | with_reducible exact go | walk_at "w")
  rename_i hb
  refine wg_inst 413 dt _ 368 Y.ht Y.hdt (by kernel_rfl) (by kernel_rfl) ?_
  repeat' walk_at "w"
  refine c_ends_at (j := i + 1) Y rfl (by omega) ?_
  rw [h3 (of_decide_eq_true hb)]
  repeat' (first | with_reducible exact go | walk_at "w")
  rename_i hb2; cases hb2
end
end
section
local macro_rules | `(tactic| walk_at "wc") => `(tactic| first | refine c_is_small ?_ | refine c_is_capital ?_ | refine c_is_digit ?_ | refine c_is_layout ?_ | refine c_is_quotable ?_ | refine c_is_symbol ?_ | refine c_is_alnum ?_ | refine c_digit_value ?_)
section
variable {n d : Nat} {kind : Str → Option NameKind} {σ : Sg} {Q : PV → Sg → Prop} {t dt cl : Addr} {cs : List Nat} {i : Nat}
theorem digV_hexD : ∀ a, a < 16 → digV (hexD a) = (a : Int) := by decide +kernel
theorem c_escape {c : Nat} {v : Int} {j : Nat} (Y : Tk σ t dt cl cs i) (hi : i < 2 ^ 40) (e1 : codeAt cs (i + 1) = (c : Int)) (hc : c ≤ 1114111)
    (hv : (simpE c = v ∧ 0 ≤ v ∧ j = i + 2) ∨ ∃ a b : Nat, c = 120 ∧ a < 16 ∧ b < 16 ∧ codeAt cs (i + 2) = hexD a ∧ codeAt cs (i + 3) = hexD b ∧ codeAt cs (i + 4) = 92 ∧ j = i + 5 ∧ v = 16 * a + b)
    (h : Q (.int v) (sset σ dt (fldT cl j))) : WCf (n + 120) ⟨kind, d + 3⟩ 403 [.ref t] σ Q := by
  refine wcf (f := f_Tokenizer_escape) (lm := upd noLM (Str.ofString "self") (.ref t)) (by rfl) (by kernel_rfl) ?_
  conv in f_Tokenizer_escape.body => whnf
  repeat' walk_at "w"
  refine wa_ 413 dt _ (nI i) Y.ht Y.hdt (by kernel_rfl) (by kernel_rfl) rfl ?_
  repeat' walk_at "w"
  refine wg_inst 413 dt _ 298 Y.ht Y.hdt (by kernel_rfl) (by kernel_rfl) ?_
  repeat' walk_at "w"
  refine c_code_at (j := i + 1) Y rfl (by omega) ?_
  rw [e1]
  repeat' walk_at "w"
  refine c_simple_escape hc ?_
  rcases hv with ⟨hs, h0, rfl⟩ | ⟨a, b, rfl, ha, hb, e2, e3, e4, rfl, rfl⟩
  · rw [hs]
    have hv0 : decide (0 ≤ v) = true := by simpa using h0
    repeat' (first | walk_at "wq" | walk_at "w")
    refine wsa_ 413 dt _ Y.ht Y.hdt (by kernel_rfl) (by simp) ?_
    show thenW _ _ _ _ .next _ (sset σ dt (.flds (putF (Str.ofString "at") (nI (i + 2)) _)))
    rw [put_at]
    repeat' walk_at "w"
    exact ret_same h
  · have hs : simpE 120 = -1 := by decide +kernel
    rw [hs]
    repeat' (first | walk_at "wq" | walk_at "w")
    have dvA := digV_hexD a ha
    have dvB := digV_hexD b hb
    have d92 : digV 92 = -1 := by decide +kernel
    have q1 : decide (digV ↑(hexD a) < 0) = false := by rw [dvA]; simp
    have q2 : decide (16 ≤ digV ↑(hexD a)) = false := by rw [dvA]; simp; omega
    have q3 : decide (digV ↑(hexD b) < 0) = false := by rw [dvB]; simp
    have q4 : decide (16 ≤ digV ↑(hexD b)) = false := by rw [dvB]; simp; omega
    have q5 : decide (digV 92 < 0) = true := by rw [d92]; decide
    have q6 : decide ((0 : Int) * 16 + digV ↑(hexD a) ≤ 1114111) = true := by rw [dvA]; simp; omega
    have q7 : decide ((1114111 : Int) < ((0 : Int) * 16 + digV ↑(hexD a)) * 16 + digV ↑(hexD b)) = false := by rw [dvA, dvB]; simp; omega
    have q8 : decide (((i : Int) + 1 + 1 + 1 + 1) = (i : Int) + 1 + 1) = false := by simp; omega
    have q9 : (!decide ((92 : Int) = 92)) = false := by decide
    refine wg_inst 413 dt _ 298 Y.ht Y.hdt (by kernel_rfl) (by kernel_rfl) ?_
    repeat' (first | walk_at "wq" | walk_at "w")
    refine c_code_at (j := i + 2) Y (by omega) (by omega) ?_
    rw [e2]
    repeat' (first | walk_at "wq" | walk_at "w")
    refine wb_mul (by decide) (by decide) ?_
    repeat' (first | walk_at "wq" | walk_at "w")
    refine turn_next ?_
    repeat' (first | walk_at "wq" | walk_at "w")
    refine wg_inst 413 dt _ 298 Y.ht Y.hdt (by kernel_rfl) (by kernel_rfl) ?_
    repeat' (first | walk_at "wq" | walk_at "w")
    refine c_code_at (j := i + 3) Y (by omega) (by omega) ?_
    rw [e3]
    repeat' (first | walk_at "wq" | walk_at "w")
    refine wb_mul (by rw [dvA]; omega) (by decide) ?_
    repeat' (first | walk_at "wq" | walk_at "w")
    refine turn_next ?_
    repeat' (first | walk_at "wq" | walk_at "w")
    refine wg_inst 413 dt _ 298 Y.ht Y.hdt (by kernel_rfl) (by kernel_rfl) ?_
    repeat' (first | walk_at "wq" | walk_at "w")
    refine c_code_at (j := i + 4) Y (by omega) (by omega) ?_
    rw [e4]
    repeat' (first | walk_at "wq" | walk_at "w")
    refine wg_inst 413 dt _ 298 Y.ht Y.hdt (by kernel_rfl) (by kernel_rfl) ?_
    repeat' (first | walk_at "wq" | walk_at "w")
    refine c_code_at (j := i + 4) Y (by omega) (by omega) ?_
    rw [e4]
    repeat' (first | walk_at "wq" | walk_at "w")
    refine wsa_ 413 dt _ Y.ht Y.hdt (by kernel_rfl) (by simp) ?_
    have ei : (i : Int) + 1 + 1 + 1 + 1 + 1 = ((i + 5 : Nat) : Int) := by omega
    have ev : ((0 : Int) * 16 + digV ↑(hexD a)) * 16 + digV ↑(hexD b) = 16 * a + b := by rw [dvA, dvB]; omega
    rw [ei, put_at, ev]
    repeat' (first | walk_at "wq" | walk_at "w")
    exact ret_same h
end
end
section
local macro_rules | `(tactic| walk_at "wc") => `(tactic| first | refine c_is_small ?_ | refine c_is_capital ?_ | refine c_is_digit ?_ | refine c_is_layout ?_ | refine c_is_quotable ?_ | refine c_is_symbol ?_ | refine c_is_alnum ?_ | refine c_digit_value ?_)
theorem codeAt_app {pre post : List Nat} {c j : Nat} (h : j = pre.length) : codeAt (pre ++ c :: post) j = (c : Int) := by
  subst h; unfold codeAt; rw [List.getElem?_append_right (Nat.le_refl _)]; simp
theorem codeAt_end {l : List Nat} {j : Nat} (h : l.length ≤ j) : codeAt l j = -1 := by
  unfold codeAt; rw [List.getElem?_eq_none h]
theorem simpE_up : ∀ c, c = 39 ∨ c = 92 → simpE c = (c : Int) := by rintro c (rfl | rfl) <;> decide +kernel
theorem simpE_low : ∀ k, k < 7 → simpE ([97, 98, 116, 110, 118, 102, 114].getD k 0) = ((k + 7 : Nat) : Int) := by decide +kernel
theorem low_ne : ∀ k, k < 7 → [97, 98, 116, 110, 118, 102, 114].getD k 0 ≠ 10 ∧ [97, 98, 116, 110, 118, 102, 114].getD k 0 ≤ 1114111 := by decide +kernel
theorem esc_case {c : Nat} (hc : c ≤ 1114111) : (escL c = [c] ∧ isQu c = true ∧ c ≠ 39 ∧ c ≠ 92 ∧ c ≠ 10) ∨
    ∃ (x : Nat) (tail : List Nat), escL c = 92 :: x :: tail ∧ x ≠ 10 ∧ x ≤ 1114111 ∧ ((simpE x = (c : Int) ∧ tail = []) ∨ ∃ a b : Nat, x = 120 ∧ a < 16 ∧ b < 16 ∧ tail = [hexD a, hexD b, 92] ∧ (c : Int) = 16 * a + b) := by
  by_cases h1 : c = 39 ∨ c = 92
  · exact .inr ⟨c, [], escL1 h1, by omega, hc, .inl ⟨simpE_up c h1, rfl⟩⟩
  by_cases h2 : 7 ≤ c ∧ c ≤ 13
  · have hk : c - 7 < 7 := by omega
    refine .inr ⟨_, [], escL2 h2.1 h2.2, (low_ne _ hk).1, (low_ne _ hk).2, .inl ⟨?_, rfl⟩⟩
    rw [simpE_low _ hk]; omega
  by_cases h3 : c < 32 ∨ c = 127
  · exact .inr ⟨120, [hexD (c / 16), hexD (c % 16), 92], escL3 h2 h3, by decide, by decide, .inr ⟨c / 16, c % 16, rfl, by omega, by omega, rfl, by omega⟩⟩
  · refine .inl ⟨escL4 (by omega) (by omega) (by omega) (by omega), ?_, by omega, by omega, by omega⟩
    unfold isQu; simp; omega
/-- the locals of quoted -/
structure LQ (lm : LM) (t b : Addr) : Prop where
  l1 : lm (Str.ofString "self") = some (.ref t)
  l2 : lm (Str.ofString "quote") = some (.int 39)
  l3 : lm (Str.ofString "codes") = some (.ref b)
  l4 : lm (Str.ofString "NO_CODE") = none
  l5 : lm (Str.ofString "NEW_LINE") = none
  l6 : lm (Str.ofString "BACKSLASH") = none
  l7 : lm (Str.ofString "is_quotable") = none
theorem LQ.upd {lm : LM} {t b : Addr} {x : Str} {v : PV} (h : LQ lm t b) (hx : x = Str.ofString "at" ∨ x = Str.ofString "code" ∨ x = Str.ofString "value") : LQ (upd lm x v) t b := by
  rcases hx with rfl | rfl | rfl
  all_goals exact ⟨upd_miss (by decide +kernel) h.l1, upd_miss (by decide +kernel) h.l2, upd_miss (by decide +kernel) h.l3, upd_miss (by decide +kernel) h.l4, upd_miss (by decide +kernel) h.l5, upd_miss (by decide +kernel) h.l6, upd_miss (by decide +kernel) h.l7⟩
theorem escL_ok {c x : Nat} (hc : c ≤ 1114111) (h : x ∈ escL c) : x ≤ 1114111 := by
  rcases esc_case hc with ⟨e, _⟩ | ⟨y, tail, e, _, h2, h3⟩
  · rw [e] at h; simp at h; omega
  · rw [e] at h
    rcases h3 with ⟨_, rfl⟩ | ⟨a, b, _, ha, hb, rfl, _⟩
    · simp at h; omega
    · have hx : ∀ a, a < 16 → hexD a ≤ 1114111 := by decide +kernel
      have := hx a ha
      have := hx b hb
      simp at h; omega
section
variable {n d : Nat} {kind : Str → Option NameKind} {σ : Sg} {Q : PV → Sg → Prop} {t dt cl : Addr}
theorem c_quoted {l : List Nat} {i : Nat} (Y : Tk σ t dt cl (quoL l) i) (hi : i < 2 ^ 40) (hl : l.length ≤ 20) (hc : ∀ c ∈ l, c ≤ 1114111)
    (h : ∀ σ' b, σ b = none → b ≠ dt → σ' b = some (.list (l.map nI)) → σ' dt = some (fldT cl (quoL l).length) → (∀ a, a ≠ dt → a ≠ b → σ' a = σ a) → Q (.ref b) σ') : WCf (n + 200) ⟨kind, d + 4⟩ 396 [.ref t, .int 0, .int 39] σ Q := by
  refine wcf (f := f_Tokenizer_quoted) (lm := upd (upd (upd noLM (Str.ofString "self") (.ref t)) (Str.ofString "begun") (.int 0)) (Str.ofString "quote") (.int 39)) (by rfl) (by kernel_rfl) ?_
  conv in f_Tokenizer_quoted.body => whnf
  repeat' walk_at "w"
  refine wsa_ 413 dt _ Y.ht Y.hdt (by kernel_rfl) (by simp) ?_
  show thenW _ _ _ _ .next _ (sset σ dt (.flds (putF (Str.ofString "at") (nI 1) _)))
  rw [put_at]
  repeat' walk_at "w"
  refine ⟨by simp, fun b hb => ?_⟩
  have hbd : b ≠ dt := fun e => by rw [e] at hb; rw [sset_hit] at hb; cases hb
  have hb0 : σ b = none := by have := hb; unfold sset at this; rwa [if_neg hbd] at this
  have hbt : b ≠ t := fun e => by rw [e, Y.ht] at hb0; cases hb0
  have hbc : b ≠ cl := fun e => by rw [e, Y.hcl] at hb0; cases hb0
  iterate 2 walk_at "w"
  have e1 : n + 196 = (n + 45 - l.length) + 150 + 1 + l.length := by omega
  rw [e1]
  refine while_rule (fun k lm σ' => LQ lm t b ∧ ∃ done rest pre : List Nat, l = done ++ rest ∧ rest.length = k ∧ quoL l = pre ++ (rest.flatMap escL ++ [39]) ∧ Tk σ' t dt cl (quoL l) pre.length ∧ σ' b = some (.list (done.map nI)) ∧ ∀ a, a ≠ dt → a ≠ b → σ' a = σ a) 150 ?_ ?_ l.length _ _ _ ⟨?_, [], l, [39], rfl, rfl, rfl, ?_, sset_hit, ?_⟩
  · rintro k lm σ' m ⟨L, done, rest, pre, h1, h2, h3, Y', h5, h6⟩ ih
    obtain ⟨l1, l2, l3, l4, l5, l6, l7⟩ := L
    have hpl : pre.length ≤ 1000 := by have := congrArg List.length h3; rw [List.length_append] at this; have := Y'.len; omega
    have hdl : done.length ≤ 20 := by rw [h1, List.length_append] at hl; omega
    cases rest with
    | nil => cases h2
    | cons c r =>
    have hcm : c ≤ 1114111 := hc c (by rw [h1]; simp)
    rw [List.flatMap_cons, List.append_assoc] at h3
    repeat' walk_at "w"
    refine wa_ 413 dt _ (nI pre.length) Y'.ht Y'.hdt (by kernel_rfl) (by kernel_rfl) rfl ?_
    repeat' walk_at "w"
    refine wg_inst 413 dt _ 298 Y'.ht Y'.hdt (by kernel_rfl) (by kernel_rfl) ?_
    repeat' walk_at "w"
    refine c_code_at (j := pre.length) Y' rfl (by omega) ?_
    rcases esc_case hcm with ⟨e, hq, e39, e92, e10⟩ | ⟨x, tail, e, x10, xm, hx⟩
    · rw [e] at h3
      have ec : codeAt (quoL l) pre.length = (c : Int) := by rw [h3]; exact codeAt_app rfl
      rw [ec]
      have q1 : decide ((c : Int) = 39) = false := by simp; omega
      have q2 : decide ((c : Int) = -1) = false := by simp
      have q3 : decide ((c : Int) = 10) = false := by simp; omega
      have q4 : decide ((c : Int) = 92) = false := by simp; omega
      repeat' (first | walk_at "wq" | walk_at "w")
      refine wg_append _ h5 ?_
      repeat' (first | walk_at "wq" | walk_at "w")
      refine wm_append _ h5 (by simp; rw [h1] at hl; simp at hl; omega) ?_
      repeat' (first | walk_at "wq" | walk_at "w")
      refine wsa_ 413 dt _ (sset_miss hbt.symm Y'.ht) (sset_miss hbd.symm Y'.hdt) (by kernel_rfl) (by simp) ?_
      show thenW _ _ _ _ .next _ (sset _ dt (.flds (putF (Str.ofString "at") (nI (pre.length + 1)) _)))
      rw [put_at]
      repeat' (first | walk_at "wq" | walk_at "w")
      have Y2 := Y'.move (j := pre.length + 1)
      refine turn_next (ih _ _ ⟨((LQ.mk l1 l2 l3 l4 l5 l6 l7).upd (.inl rfl)).upd (.inr (.inl rfl)), done ++ [c], r, pre ++ [c], by rw [h1]; simp, by simpa using h2, by rw [h3]; simp, ?_, ?_, ?_⟩)
      · rw [List.length_append]
        exact ⟨sset_miss Y'.ne.1 (sset_miss hbt.symm Y'.ht), sset_hit, sset_miss Y'.ne.2 (sset_miss hbc.symm Y'.hcl), Y'.ok, Y'.len, Y'.ne⟩
      · rw [List.map_append]; exact sset_miss hbd sset_hit
      · intro a a1 a2; exact (sset_miss a1 (sset_miss a2 rfl)).trans (h6 a a1 a2)
    · rw [e] at h3
      have ec : codeAt (quoL l) pre.length = 92 := by rw [h3]; exact codeAt_app rfl
      have ex : codeAt (quoL l) (pre.length + 1) = (x : Int) := by rw [h3, List.cons_append, List.cons_append, List.append_cons]; exact codeAt_app (by simp)
      rw [ec]
      have q1 : decide ((x : Int) = 10) = false := by simp; omega
      repeat' (first | walk_at "wq" | walk_at "w")
      refine wg_inst 413 dt _ 298 Y'.ht Y'.hdt (by kernel_rfl) (by kernel_rfl) ?_
      repeat' (first | walk_at "wq" | walk_at "w")
      refine c_code_at (j := pre.length + 1) Y' (by omega) (by omega) ?_
      rw [ex]
      repeat' (first | walk_at "wq" | walk_at "w")
      refine wg_inst 413 dt _ 403 Y'.ht Y'.hdt (by kernel_rfl) (by kernel_rfl) ?_
      repeat' (first | walk_at "wq" | walk_at "w")
      refine c_escape (c := x) (v := (c : Int)) (j := pre.length + (92 :: x :: tail).length) Y' (by omega) ex xm ?_ ?_
      · rcases hx with ⟨hs, rfl⟩ | ⟨a, b', rfl, ha, hb', rfl, hv⟩
        · exact .inl ⟨hs, by omega, by simp⟩
        · refine .inr ⟨a, b', rfl, ha, hb', ?_, ?_, ?_, by simp, hv⟩
          · rw [h3, show pre ++ (92 :: 120 :: [hexD a, hexD b', 92] ++ (List.flatMap escL r ++ [39])) = (pre ++ [92, 120]) ++ hexD a :: (hexD b' :: 92 :: (List.flatMap escL r ++ [39])) by simp]; exact codeAt_app (by simp)
          · rw [h3, show pre ++ (92 :: 120 :: [hexD a, hexD b', 92] ++ (List.flatMap escL r ++ [39])) = (pre ++ [92, 120, hexD a]) ++ hexD b' :: (92 :: (List.flatMap escL r ++ [39])) by simp]; exact codeAt_app (by simp)
          · rw [h3, show pre ++ (92 :: 120 :: [hexD a, hexD b', 92] ++ (List.flatMap escL r ++ [39])) = (pre ++ [92, 120, hexD a, hexD b']) ++ 92 :: (List.flatMap escL r ++ [39]) by simp]; exact codeAt_app (by simp)
      have q2 : decide ((c : Int) < 0) = false := by simp
      have Y2 := Y'.move (j := pre.length + (92 :: x :: tail).length)
      have h5' : sset σ' dt (fldT cl (pre.length + (92 :: x :: tail).length)) b = some (.list (done.map nI)) := sset_miss hbd h5
      repeat' (first | walk_at "wq" | walk_at "w")
      refine wg_append _ h5' ?_
      repeat' (first | walk_at "wq" | walk_at "w")
      refine wm_append _ h5' (by simp; omega) ?_
      repeat' (first | walk_at "wq" | walk_at "w")
      refine turn_next (ih _ _ ⟨(((LQ.mk l1 l2 l3 l4 l5 l6 l7).upd (.inl rfl)).upd (.inr (.inl rfl))).upd (.inr (.inr rfl)), done ++ [c], r, pre ++ 92 :: x :: tail, by rw [h1]; simp, by simpa using h2, by rw [h3]; simp, ?_, ?_, ?_⟩)
      · rw [List.length_append]
        exact ⟨sset_miss hbt.symm Y2.ht, sset_miss hbd.symm Y2.hdt, sset_miss hbc.symm Y2.hcl, Y'.ok, Y'.len, Y'.ne⟩
      · rw [List.map_append]; exact sset_hit
      · intro a a1 a2; exact (sset_miss a2 (sset_miss a1 rfl)).trans (h6 a a1 a2)
  · rintro lm σ' m ⟨L, done, rest, pre, h1, h2, h3, Y', h5, h6⟩
    obtain ⟨l1, l2, l3, l4, l5, l6, l7⟩ := L
    have : rest = [] := List.eq_nil_of_length_eq_zero h2
    subst this
    rw [List.append_nil] at h1
    subst h1
    have h3' : quoL l = pre ++ [39] := by rw [h3]; rfl
    have hpl : pre.length ≤ 1000 := by have := congrArg List.length h3; rw [List.length_append] at this; have := Y'.len; omega
    have ec : codeAt (quoL l) pre.length = 39 := by rw [h3']; exact codeAt_app rfl
    have ec2 : codeAt (quoL l) (pre.length + 1) = -1 := by rw [h3']; exact codeAt_end (by simp)
    repeat' walk_at "w"
    refine wa_ 413 dt _ (nI pre.length) Y'.ht Y'.hdt (by kernel_rfl) (by kernel_rfl) rfl ?_
    repeat' walk_at "w"
    refine wg_inst 413 dt _ 298 Y'.ht Y'.hdt (by kernel_rfl) (by kernel_rfl) ?_
    repeat' walk_at "w"
    refine c_code_at (j := pre.length) Y' rfl (by omega) ?_
    rw [ec]
    repeat' (first | walk_at "wq" | walk_at "w")
    refine wg_inst 413 dt _ 298 Y'.ht Y'.hdt (by kernel_rfl) (by kernel_rfl) ?_
    repeat' (first | walk_at "wq" | walk_at "w")
    refine c_code_at (j := pre.length + 1) Y' (by omega) (by omega) ?_
    rw [ec2]
    repeat' (first | walk_at "wq" | walk_at "w")
    refine wsa_ 413 dt _ Y'.ht Y'.hdt (by kernel_rfl) (by simp) ?_
    show thenW _ _ _ _ .next _ (sset _ dt (.flds (putF (Str.ofString "at") (nI (pre.length + 1)) _)))
    rw [put_at]
    repeat' (first | walk_at "wq" | walk_at "w")
    refine ret_same (h _ b hb0 hbd (sset_miss hbd h5) ?_ ?_)
    · have : (quoL l).length = pre.length + 1 := by rw [h3']; simp
      rw [this]; exact sset_hit
    · intro a a1 a2; exact (sset_miss a1 rfl).trans (h6 a a1 a2)
  · exact ⟨by walk_at "wv", by walk_at "wv", by walk_at "wv", by walk_at "wv", by walk_at "wv", by walk_at "wv", by walk_at "wv"⟩
  · exact ⟨sset_miss hbt.symm (sset_miss Y.ne.1 Y.ht), sset_miss hbd.symm sset_hit, sset_miss hbc.symm (sset_miss Y.ne.2 Y.hcl), Y.ok, Y.len, Y.ne⟩
  · intro a a1 a2; exact sset_miss a2 (sset_miss a1 rfl)
end
end
section
local macro_rules | `(tactic| walk_at "wc") => `(tactic| first | refine c_is_small ?_ | refine c_is_capital ?_ | refine c_is_digit ?_ | refine c_is_layout ?_ | refine c_is_quotable ?_ | refine c_is_symbol ?_ | refine c_is_alnum ?_ | refine c_digit_value ?_)
/-- the next token from place i: its kind, its text, the place behind it -/
inductive Nx (cs : List Nat) (i : Nat) : Str → Str → Nat → Prop
  | eof (h : cs.length ≤ i) : Nx cs i (Str.ofString "eof") (Str.ofString "") i
  | word (b : Nat) (hs : isSm (codeAt cs i) = true) (h1 : i ≤ b) (h2 : b ≤ cs.length) (h3 : b - i ≤ 20) (h4 : ∀ j, i ≤ j → j < b → isAl (codeAt cs j) = true) (h5 : isAl (codeAt cs b) = false) : Nx cs i (Str.ofString "name") (S ((cs.take b).drop i)) b
  | quo (l : List Nat) (e : cs = quoL l) (hi : i = 0) (h1 : l.length ≤ 20) (h2 : ∀ c ∈ l, c ≤ 1114111) : Nx cs i (Str.ofString "qname") (S l) (quoL l).length
  | sym (b : Nat) (hs : isSy (codeAt cs i) = true) (h0 : codeAt cs i = 47 → codeAt cs (i + 1) ≠ 42) (h1 : i ≤ b) (h2 : b ≤ cs.length) (h3 : b - i ≤ 20) (h4 : ∀ j, i ≤ j → j < b → isSy (codeAt cs j) = true) (h5 : isSy (codeAt cs b) = false)
      (h6 : codeAt cs i = 46 → (decide (codeAt cs (i + 1) = -1) || (decide (codeAt cs (i + 1) = 37) || isLy (codeAt cs (i + 1)))) = false) : Nx cs i (Str.ofString "name") (S ((cs.take b).drop i)) b
  | pun (c : Nat) (e : codeAt cs i = c) (hc : c ∈ [91, 93, 123, 125]) : Nx cs i (Str.ofString "punct") (S [c]) (i + 1)
  | solo (c : Nat) (e : codeAt cs i = c) (hc : c ∈ [33, 59]) : Nx cs i (Str.ofString "name") (S [c]) (i + 1)
theorem sset_same {σ : Sg} {a : Addr} {o : AO} (h : σ a = some o) : sset σ a o = σ := by
  funext b; unfold sset
  split
  · rename_i q; rw [q, h]
  · rfl
theorem isSy_mem {x : Int} (h : isSy x = true) : ∃ c : Nat, x = c ∧ c ∈ [43, 45, 42, 47, 92, 94, 60, 62, 61, 126, 58, 46, 63, 64, 35, 38, 36] := by
  unfold isSy at h
  simp only [Bool.and_eq_true, decide_eq_true_eq] at h
  refine ⟨x.toNat, by omega, ?_⟩
  have := h.2.2
  rw [symS_mem] at this
  exact of_decide_eq_true this
theorem sy_facts : ∀ c ∈ [43, 45, 42, 47, 92, 94, 60, 62, 61, 126, 58, 46, 63, 64, 35, 38, 36], (isLy (c : Nat) = false ∧ decide (((c : Nat) : Int) = 40) = false ∧ isSm (c : Nat) = false ∧ isCp (c : Nat) = false) ∧ decide (((c : Nat) : Int) = 95) = false ∧ isDg (c : Nat) = false ∧ decide (((c : Nat) : Int) = 39) = false ∧ decide (((c : Nat) : Int) = 34) = false ∧ decide (((c : Nat) : Int) = 96) = false ∧ c ≠ 37 := by decide +kernel
noncomputable abbrev noneOf (c : Nat) : Prop := (isLy (c : Nat) = false ∧ ((c : Nat) : Int) ≠ 37 ∧ ((c : Nat) : Int) ≠ 47) ∧ decide (((c : Nat) : Int) = 40) = false ∧ isSm (c : Nat) = false ∧ isCp (c : Nat) = false ∧ decide (((c : Nat) : Int) = 95) = false ∧ isDg (c : Nat) = false ∧ decide (((c : Nat) : Int) = 39) = false ∧ decide (((c : Nat) : Int) = 34) = false ∧ decide (((c : Nat) : Int) = 96) = false ∧ isSy (c : Nat) = false
theorem pn_facts : ∀ c ∈ [91, 93, 123, 125], noneOf c := by decide +kernel
theorem so_facts : ∀ c ∈ [33, 59], noneOf c := by decide +kernel
theorem pn_in : ∀ c ∈ [91, 93, 123, 125], Txt.contains (Str.ofString ")[]{},|") (S [c]) = true ∧ c ≤ 1114111 := by decide +kernel
theorem so_in : ∀ c ∈ [33, 59], Txt.contains (Str.ofString ")[]{},|") (S [c]) = false ∧ Txt.contains (Str.ofString "!;") (S [c]) = true ∧ c ≤ 1114111 := by decide +kernel
theorem sm_facts {x : Int} (h : isSm x = true) : isLy x = false ∧ decide (x = 40) = false ∧ x ≠ 37 ∧ x ≠ 47 := by
  unfold isSm at h
  simp only [Bool.and_eq_true, decide_eq_true_eq] at h
  refine ⟨?_, by simp; omega, by omega, by omega⟩
  unfold isLy; simp; omega
section
variable {n d : Nat} {kind : Str → Option NameKind} {σ : Sg} {Q : PV → Sg → Prop} {t dt cl : Addr} {cs : List Nat} {i : Nat}
theorem c_next {k x : Str} {j : Nat} (Y : Tk σ t dt cl cs i) (hi : i < 2 ^ 40) (N : Nx cs i k x j) (h : Q (.tup [.str k, .str x, nI i]) (sset σ dt (fldT cl j))) : WCf (n + 260) ⟨kind, d + 6⟩ 319 [.ref t] σ Q := by
  have hl := Y.len
  have hskip : isLy (codeAt cs i) = false ∧ codeAt cs i ≠ 37 ∧ (codeAt cs i = 47 → codeAt cs (i + 1) ≠ 42) := by
    cases N with
    | eof h0 => rw [codeAt_end h0]; exact ⟨by decide, by decide, fun q => absurd q (by decide)⟩
    | word b hs => have := sm_facts hs; exact ⟨this.1, this.2.2.1, fun q => absurd q this.2.2.2⟩
    | quo l e hi => subst e hi; exact ⟨(by decide : isLy 39 = false), (by decide : (39 : Int) ≠ 37), fun q => absurd (show (39 : Int) = 47 from q) (by decide)⟩
    | sym b hs h0 =>
      obtain ⟨c, e, hc⟩ := isSy_mem hs
      have := sy_facts c hc
      rw [e] at h0 ⊢
      exact ⟨this.1.1, by have := this.2.2.2.2.2.2; omega, h0⟩
    | pun c e hc => have := pn_facts c hc; rw [e]; exact ⟨this.1.1, this.1.2.1, fun q => absurd q this.1.2.2⟩
    | solo c e hc => have := so_facts c hc; rw [e]; exact ⟨this.1.1, this.1.2.1, fun q => absurd q this.1.2.2⟩
  refine wcf (f := f_Tokenizer_next) (lm := upd noLM (Str.ofString "self") (.ref t)) (by rfl) (by kernel_rfl) ?_
  conv in f_Tokenizer_next.body => whnf
  repeat' walk_at "w"
  refine wa_ 413 dt _ (nI i) Y.ht Y.hdt (by kernel_rfl) (by kernel_rfl) rfl ?_
  repeat' walk_at "w"
  refine wg_inst 413 dt _ 333 Y.ht Y.hdt (by kernel_rfl) (by kernel_rfl) ?_
  repeat' walk_at "w"
  refine c_skip Y (by omega) rfl hskip.1 hskip.2.1 hskip.2.2 ?_
  repeat' walk_at "w"
  refine wa_ 413 dt _ (nI i) Y.ht Y.hdt (by kernel_rfl) (by kernel_rfl) rfl ?_
  repeat' walk_at "w"
  refine wa_ 413 dt _ (.ref cl) Y.ht Y.hdt (by kernel_rfl) (by kernel_rfl) rfl ?_
  repeat' walk_at "w"
  refine wf_lenL _ Y.hcl (by simp; omega) ?_
  repeat' walk_at "w"
  · rename_i hb
    have hb : cs.length ≤ i := by simpa using hb
    have em : codeAt cs i = -1 := codeAt_end hb
    cases N with
    | eof h0 =>
      have : sset σ dt (fldT cl i) = σ := sset_same Y.hdt
      rw [this] at h
      refine ⟨by simp, ?_⟩
      repeat' walk_at "w"
      exact ret_same h
    | word b hs => rw [em] at hs; exact absurd hs (by decide)
    | quo l e hi => subst e hi; exact absurd (show (39 : Int) = -1 from em) (by decide)
    | sym b hs => rw [em] at hs; exact absurd hs (by decide)
    | pun c e => rw [em] at e; exact absurd e (by omega)
    | solo c e => rw [em] at e; exact absurd e (by omega)
  · rename_i hb
    have hb : i < cs.length := by simpa using hb
    refine wg_inst 413 dt _ 298 Y.ht Y.hdt (by kernel_rfl) (by kernel_rfl) ?_
    repeat' walk_at "w"
    refine c_code_at (j := i) Y rfl (by omega) ?_
    cases N with
    | eof h0 => omega
    | word b hs h1 h2 h3 h4 h5 =>
      obtain ⟨_, q1, _, _⟩ := sm_facts hs
      repeat' (first | walk_at "wq" | walk_at "w")
      refine wg_inst 413 dt _ 354 Y.ht Y.hdt (by kernel_rfl) (by kernel_rfl) ?_
      repeat' (first | walk_at "wq" | walk_at "w")
      refine c_word Y h1 h2 h3 h4 h5 ?_
      repeat' (first | walk_at "wq" | walk_at "w")
      refine ⟨by simp, ?_⟩
      repeat' (first | walk_at "wq" | walk_at "w")
      exact ret_same h
    | quo l e hi h1 h2 =>
      subst e hi
      have ec : codeAt (quoL l) 0 = 39 := rfl
      rw [ec]
      repeat' (first | walk_at "wq" | walk_at "w")
      refine wg_inst 413 dt _ 396 Y.ht Y.hdt (by kernel_rfl) (by kernel_rfl) ?_
      repeat' (first | walk_at "wq" | walk_at "w")
      refine c_quoted Y (by decide) h1 h2 fun σ' b hb hbd g1 g2 g3 => ?_
      repeat' (first | walk_at "wq" | walk_at "w")
      refine c_codes_text g1 h2 (by omega) ?_
      repeat' (first | walk_at "wq" | walk_at "w")
      refine ⟨by simp, ?_⟩
      repeat' (first | walk_at "wq" | walk_at "w")
      refine ret_less _ (fun a o e => ?_) h
      by_cases q : a = dt
      · subst q; rw [sset_hit] at e; rw [g2]; exact e
      · have e' : σ a = some o := by unfold sset at e; rwa [if_neg q] at e
        rw [g3 a q (fun r => by rw [r, hb] at e'; cases e')]; exact e'
    | sym b hs h0 h1 h2 h3 h4 h5 h6 =>
      obtain ⟨c, e, hc⟩ := isSy_mem hs
      obtain ⟨⟨_, q1, q2, q3⟩, q4, q5, q6, q7, q8, _⟩ := sy_facts c hc
      rw [e] at hs
      rw [e]
      repeat' (first | walk_at "wq" | walk_at "w")
      refine wg_inst 413 dt _ 361 Y.ht Y.hdt (by kernel_rfl) (by kernel_rfl) ?_
      repeat' (first | walk_at "wq" | walk_at "w")
      refine c_symbol Y h1 h2 h3 h4 h5 h6 ?_
      repeat' (first | walk_at "wq" | walk_at "w")
      exact ret_same h
    | pun c e hc =>
      obtain ⟨_, q1, q2, q3, q4, q5, q6, q7, q8, q9⟩ := pn_facts c hc
      obtain ⟨k1, k2⟩ := pn_in c hc
      rw [e]
      repeat' (first | walk_at "wq" | walk_at "w")
      refine wsa_ 413 dt _ Y.ht Y.hdt (by kernel_rfl) (by simp) ?_
      show thenW _ _ _ _ .next _ (sset _ dt (.flds (putF (Str.ofString "at") (nI (i + 1)) _)))
      rw [put_at]
      repeat' (first | walk_at "wq" | walk_at "w")
      rw [if_neg (by omega)]
      refine wf_chrN k2 ?_
      repeat' (first | walk_at "wq" | walk_at "w")
      refine ⟨by simp, ?_⟩
      repeat' (first | walk_at "wq" | walk_at "w")
      exact ret_same h
    | solo c e hc =>
      obtain ⟨_, q1, q2, q3, q4, q5, q6, q7, q8, q9⟩ := so_facts c hc
      obtain ⟨k1, k2, k3⟩ := so_in c hc
      rw [e]
      repeat' (first | walk_at "wq" | walk_at "w")
      refine wsa_ 413 dt _ Y.ht Y.hdt (by kernel_rfl) (by simp) ?_
      show thenW _ _ _ _ .next _ (sset _ dt (.flds (putF (Str.ofString "at") (nI (i + 1)) _)))
      rw [put_at]
      repeat' (first | walk_at "wq" | walk_at "w")
      rw [if_neg (by omega)]
      refine wf_chrN k3 ?_
      repeat' (first | walk_at "wq" | walk_at "w")
      refine ⟨by simp, ?_⟩
      repeat' (first | walk_at "wq" | walk_at "w")
      exact ret_same h
end
end
section
section
variable {n d : Nat} {kind : Str → Option NameKind} {σ : Sg} {Q : PV → Sg → Prop} {t dt cl : Addr}
theorem c_Tokenizer (e1 : σ t = some (.inst 413 dt)) (e2 : σ dt = some (.flds [])) (ht : t ≠ dt) (h : Q .none (sset σ dt (fldT cl 0))) : WCf (n + 40) ⟨kind, d + 1⟩ 291 [.ref t, .ref cl] σ Q := by
  refine wcf (f := f_Tokenizer_init) (lm := upd (upd (upd noLM (Str.ofString "self") (.ref t)) (Str.ofString "codes") (.ref cl)) (Str.ofString "at") (.int 0)) (by rfl) (by kernel_rfl) ?_
  conv in f_Tokenizer_init.body => whnf
  repeat' walk_at "w"
  refine wsa_ 413 dt _ e1 e2 (by kernel_rfl) (by simp) ?_
  show thenW _ _ _ _ .next _ (sset _ dt (.flds [(Str.ofString "codes", .ref cl)]))
  repeat' walk_at "w"
  refine wsa_ 413 dt _ (sset_miss ht e1) sset_hit (by kernel_rfl) (by simp) ?_
  rw [sset_sset, show putF (Str.ofString "at") (.int 0) [(Str.ofString "codes", .ref cl)] = [(Str.ofString "codes", .ref cl), (Str.ofString "at", .int 0)] by kernel_rfl]
  repeat' walk_at "w"
  refine wsa_ 413 dt _ (sset_miss ht e1) sset_hit (by kernel_rfl) (by simp) ?_
  rw [sset_sset, show putF (Str.ofString "origin") (.int 0) [(Str.ofString "codes", .ref cl), (Str.ofString "at", .int 0)] = [(Str.ofString "codes", .ref cl), (Str.ofString "at", .int 0), (Str.ofString "origin", .int 0)] by kernel_rfl]
  repeat' walk_at "w"
  exact end_same h
/-- a pool -/
structure Pl (σ : Sg) (p g : Addr) : Prop where
  hp : ∃ k m : Int, σ p = some (.list [.ref g, .int k, .int m]) ∧ 0 ≤ k ∧ k ≤ 1000 ∧ 0 ≤ m ∧ m < 1009
  hg : ∃ fs : List Int, σ g = some (.list (fs.map .int)) ∧ fs.length ≤ 1000
  ne : p ≠ g
theorem fmod_in {x y : Int} (h : 0 < y) : 0 ≤ x.fmod y ∧ x.fmod y < y := ⟨Int.fmod_nonneg_of_pos x h, Int.fmod_lt_of_pos x h⟩
theorem c_pick {p g : Addr} {b : Int} (Y : Pl σ p g) (hb : 0 < b) (h : ∀ (v : Int) σ', 0 ≤ v → v < b → Pl σ' p g → (∀ a, a ≠ p → σ' a = σ a) → Q (.int v) σ') : WCf (n + 40) ⟨kind, d + 1⟩ 431 [.ref p, .int b] σ Q := by
  obtain ⟨⟨k, m, e1, k0, k1, m0, m1⟩, ⟨fs, e2, f1⟩, hne⟩ := Y
  refine wcf (f := f_law_pick) (lm := upd (upd noLM (Str.ofString "pool") (.ref p)) (Str.ofString "bound") (.int b)) (by rfl) (by kernel_rfl) ?_
  conv in f_law_pick.body => whnf
  have kk : [PV.ref g, .int k, .int m][(1 : Int).toNat]? = some (.int k) := rfl
  have kg : [PV.ref g, .int k, .int m][(0 : Int).toNat]? = some (.ref g) := rfl
  have km : [PV.ref g, .int k, .int m][(2 : Int).toNat]? = some (.int m) := rfl
  repeat' walk_at "w"
  refine wi_list _ _ e1 (by decide) (by decide) kk ?_
  repeat' walk_at "w"
  refine wi_list _ _ e1 (by decide) (by decide) kg ?_
  repeat' walk_at "w"
  refine wf_lenL _ e2 (by simp; omega) ?_
  repeat' walk_at "w"
  · rename_i hlt
    have hlt : k < fs.length := by simpa using hlt
    refine wi_list _ _ e1 (by decide) (by decide) kg ?_
    repeat' walk_at "w"
    refine wi_list _ _ e1 (by decide) (by decide) kk ?_
    repeat' walk_at "w"
    refine wi_list _ (.int fs[k.toNat]) e2 k0 (by omega) (by simp) ?_
    repeat' walk_at "w"
    refine wi_list _ _ e1 (by decide) (by decide) kk ?_
    repeat' walk_at "w"
    refine wsi_list _ e1 (by decide) (by decide) (by simp) ?_
    repeat' walk_at "w"
    have := @fmod_in fs[k.toNat] b hb
    refine wb_mod (by omega) ?_
    repeat' walk_at "w"
    exact ret_same (h _ _ this.1 this.2 ⟨⟨k + 1, m, sset_hit, by omega, by omega, m0, m1⟩, ⟨fs, sset_miss hne.symm e2, f1⟩, hne⟩ fun a ha => sset_miss ha rfl)
  · refine wi_list _ _ e1 (by decide) (by decide) kg ?_
    repeat' walk_at "w"
    refine wf_lenL _ e2 (by simp; omega) ?_
    repeat' walk_at "w"
    · refine wb_mod (by omega) ?_
      have := @fmod_in 0 b hb
      repeat' walk_at "w"
      exact ret_same (h _ _ this.1 this.2 ⟨⟨k, m, e1, k0, k1, m0, m1⟩, ⟨fs, e2, f1⟩, hne⟩ fun a ha => rfl)
    · refine wi_list _ _ e1 (by decide) (by decide) km ?_
      repeat' walk_at "w"
      refine wb_mul (by omega) (by decide) ?_
      repeat' walk_at "w"
      have h9 := @fmod_in (m * 37 + 11) 1009 (by decide)
      refine wb_mod (by decide) ?_
      repeat' walk_at "w"
      refine wsi_list _ e1 (by decide) (by decide) (by simp) ?_
      repeat' walk_at "w"
      refine wi_list _ _ sset_hit (by decide) (by decide) (by rfl) ?_
      repeat' walk_at "w"
      have := @fmod_in ((m * 37 + 11).fmod 1009) b hb
      refine wb_mod (by omega) ?_
      repeat' walk_at "w"
      exact ret_same (h _ _ this.1 this.2 ⟨⟨k, _, sset_hit, k0, k1, h9.1, h9.2⟩, ⟨fs, sset_miss hne.symm e2, f1⟩, hne⟩ fun a ha => sset_miss ha rfl)
end
end
section
/-- the locals of _law_pool -/
structure LO (lm : LM) (g : Addr) : Prop where
  l1 : lm (Str.ofString "figures") = some (.ref g)
  l2 : lm (Str.ofString "int") = none
  l3 : lm (Str.ofString "abs") = none
  l4 : lm (Str.ofString "range") = none
  l5 : lm (Str.ofString "len") = none
  l6 : ∃ m : Int, lm (Str.ofString "mix") = some (.int m) ∧ 0 ≤ m ∧ m < 1009
theorem LO.upd {lm : LM} {g : Addr} {x : Str} {v : PV} (h : LO lm g) (hx : x = Str.ofString "cell" ∨ x = Str.ofString "whole" ∨ x = Str.ofString "rest" ∨ x = Str.ofString "step") : LO (upd lm x v) g := by
  obtain ⟨m, e, h0⟩ := h.l6
  rcases hx with rfl | rfl | rfl | rfl
  all_goals exact ⟨upd_miss (by decide +kernel) h.l1, upd_miss (by decide +kernel) h.l2, upd_miss (by decide +kernel) h.l3, upd_miss (by decide +kernel) h.l4, upd_miss (by decide +kernel) h.l5, m, upd_miss (by decide +kernel) e, h0⟩
theorem LO.mix {lm : LM} {g : Addr} {m : Int} (h : LO lm g) (h0 : 0 ≤ m) (h1 : m < 1009) : LO (Mine.upd lm (Str.ofString "mix") (.int m)) g :=
  ⟨upd_miss (by decide +kernel) h.l1, upd_miss (by decide +kernel) h.l2, upd_miss (by decide +kernel) h.l3, upd_miss (by decide +kernel) h.l4, upd_miss (by decide +kernel) h.l5, m, upd_hit, h0, h1⟩
theorem ne_of {σ : Sg} {a b : Addr} {o : AO} (h : σ a = none) (e : σ b = some o) : b ≠ a := fun q => by rw [q, h] at e; cases e
noncomputable def forBody : List Stmt → List Stmt
  | .For _ _ b _ _ :: _ => b
  | _ => []
section
variable {n d : Nat} {kind : Str → Option NameKind} {σ : Sg} {Q : PV → Sg → Prop}
theorem c_pool {script : List Int} (hs : script.length ≤ 1000000) (h : ∀ p g σ', Pl σ' p g → sle σ σ' → Q (.ref p) σ') : WCf (n + 60) ⟨kind, d + 1⟩ 424 [.blist script] σ Q := by
  refine wcf (f := f_law_pool) (lm := upd noLM (Str.ofString "script") (.blist script)) (by rfl) (by kernel_rfl) ?_
  conv in f_law_pool.body => whnf
  repeat' walk_at "w"
  refine ⟨by simp, fun g hg => ?_⟩
  repeat' walk_at "w"
  refine wcut_b (by decide) (by decide) hs fun b hb => ?_
  have hbg : g ≠ b := ne_of hb sset_hit
  refine ⟨_, show (match sset _ b _ b with | some (.list xs) => some xs | _ => none) = _ by rw [sset_hit], by simp; omega, ?_⟩
  have fin : ∀ lm σ', LO lm g → sle σ σ' → ∀ fs : List Int, σ' g = some (.list (fs.map .int)) → fs.length ≤ 460 → thenW (n + 56) ⟨f_law_pool.kind, d⟩ (f_law_pool.body.drop 3) (retW Q) .next lm σ' := by
    rintro lm σ' ⟨l1, l2, l3, l4, l5, m, l6, m0, m1⟩ hsl fs e hl
    conv in List.drop _ _ => whnf
    repeat' walk_at "w"
    refine ⟨by simp, fun p hp => ?_⟩
    repeat' walk_at "w"
    exact ret_same (h p g _ ⟨⟨0, m, sset_hit, by decide, by decide, m0, m1⟩, ⟨fs, sset_miss (ne_of hp e) e, by omega⟩, (ne_of hp e).symm⟩ fun a o q => sset_miss (ne_of hp (hsl a o q)) (hsl a o q))
  conv at fin in List.drop _ _ => whnf
  refine forW_rule (I := fun vs lm σ' => LO lm g ∧ sle σ σ' ∧ (∃ cells : List Int, vs = cells.map .int) ∧ ∃ fs : List Int, σ' g = some (.list (fs.map .int)) ∧ fs.length ≤ 400) ?_ ?_ _ _ _ ⟨?_, ?_, ⟨_, rfl⟩, [], ?_, by simp⟩
  · rintro lm σ' ⟨L0, hsl, _, fs, e, hl⟩
    exact fin lm σ' L0 hsl fs e (by omega)
  · rintro v vs lm σ' K ⟨L0, hsl, ⟨cells, hc⟩, fs, e, hl⟩ kn kb kr
    cases cells with
    | nil => cases hc
    | cons c cells =>
    obtain ⟨rfl, rfl⟩ := List.cons.inj hc
    obtain ⟨l1, l2, l3, l4, l5, m, l6, m0, m1⟩ := L0.upd (v := .int c) (.inl rfl)
    repeat' walk_at "w"
    refine wb_mul (by omega) (by decide) ?_
    repeat' walk_at "w"
    have hm := @fmod_in (m * 31 + c) 1009 (by decide)
    refine wb_mod (by decide) ?_
    repeat' walk_at "w"
    refine wt_range (by decide) ?_
    refine ⟨_, rfl, by decide, ?_⟩
    have fin2 : ∀ lm σ', LO lm g → sle σ σ' → ∀ fs : List Int, σ' g = some (.list (fs.map .int)) → fs.length ≤ 460 → thenW (n + 51) ⟨f_law_pool.kind, d⟩ ((forBody (f_law_pool.body.drop 2)).drop 4) K .next lm σ' := by
      rintro lm σ' L2 hsl fs e hl
      conv in List.drop 4 _ => whnf
      have L3 := L2
      obtain ⟨l1, l2, l3, l4, l5, m, l6, m0, m1⟩ := L2
      repeat' walk_at "w"
      refine wf_lenL _ e (by simp; omega) ?_
      repeat' walk_at "w"
      · exact kb _ _ (fin _ _ L3 hsl fs e hl)
      · rename_i hle
        exact kn _ _ ⟨L3, hsl, ⟨_, rfl⟩, fs, e, by simp at hle; omega⟩
    conv at fin2 in List.drop 4 _ => whnf
    refine forW_rule (I := fun vs lm σ' => LO lm g ∧ (∃ r : Int, lm (Str.ofString "rest") = some (.int r) ∧ 0 ≤ r) ∧ sle σ σ' ∧ ∃ fs : List Int, σ' g = some (.list (fs.map .int)) ∧ fs.length + vs.length ≤ 460) ?_ ?_ _ _ _ ⟨?_, ⟨_, upd_hit, ?_⟩, hsl, fs, e, ?_⟩
    · rintro lm σ' ⟨L1, _, hsl, fs, e, hl⟩
      exact fin2 lm σ' L1 hsl fs e hl
    · rintro v vs lm σ' K' ⟨L1, ⟨r, er, r0⟩, hsl, fs, e, hl⟩ kn' kb' kr'
      have L2 := L1.upd (v := v) (.inr (.inr (.inr rfl)))
      have er2 : upd lm (Str.ofString "step") v (Str.ofString "rest") = some (.int r) := upd_miss (by decide +kernel) er
      have L3 := L2
      obtain ⟨l1, l2, l3, l4, l5, m, l6, m0, m1⟩ := L2
      have hfl : fs.length ≤ 1000000 := by simp at hl; omega
      repeat' walk_at "w"
      refine wg_append _ e ?_
      repeat' walk_at "w"
      refine wb_mod (by decide) ?_
      repeat' walk_at "w"
      refine wm_append _ e (by simpa using hfl) ?_
      repeat' walk_at "w"
      refine wb_div (by decide) (by decide) ?_
      repeat' walk_at "w"
      all_goals have hl' : (fs ++ [r.fmod 840]).length + vs.length ≤ 460 := by simp at hl ⊢; omega
      all_goals have hg' : ∀ o : AO, sset σ' g o g = some o := fun o => sset_hit
      all_goals have e' : sset σ' g (AO.list (List.map PV.int fs ++ [PV.int (r.fmod 840)])) g = some (.list ((fs ++ [r.fmod 840]).map .int)) := by rw [List.map_append]; exact sset_hit
      all_goals have hsl' : sle σ (sset σ' g (AO.list (List.map PV.int fs ++ [PV.int (r.fmod 840)]))) := fun a o q => sset_miss (ne_of hg q) (hsl a o q)
      · exact kb' _ _ (fin2 _ _ (L3.upd (.inr (.inr (.inl rfl)))) hsl' _ e' (by omega))
      · exact kn' _ _ ⟨L3.upd (.inr (.inr (.inl rfl))), ⟨_, upd_hit, Int.fdiv_nonneg r0 (by decide)⟩, hsl', _, e', hl'⟩
    · exact ((((L0.upd (v := .int c) (.inl rfl)).upd (v := .int c) (.inr (.inl rfl))).mix hm.1 hm.2).upd (.inr (.inr (.inl rfl))))
    · split <;> omega
    · simp; omega
  · exact ⟨upd_miss (by decide +kernel) upd_hit, by walk_at "wv", by walk_at "wv", by walk_at "wv", by walk_at "wv", 5, upd_hit, by decide, by decide⟩
  · intro a o q
    have : a ≠ g := ne_of hg q
    have hq : sset σ g (.list []) a = some o := sset_miss this q
    show (if a = b then none else sset (sset σ g _) b _ a) = some o
    rw [if_neg (ne_of hb hq), sset_miss (ne_of hb hq) hq]
  · show (if g = b then none else sset (sset σ g _) b _ g) = _
    rw [if_neg hbg, sset_miss hbg sset_hit]; rfl
end
end
section
noncomputable def menuL : List (List Nat) := [[], [91, 93], [123, 125], [33], [59], [44], [124], [46], [47, 42], [39], [92], [65], [95, 120], [91], [97, 46, 98], [97, 32, 98], [120, 39], [40, 41], [48], [37]]
noncomputable def nmOk (l : List Nat) : Prop := l.length ≤ 5 ∧ ∀ c ∈ l, c ≤ 1114111
theorem menu_ok : ∀ l ∈ menuL, nmOk l := by unfold nmOk; decide +kernel
theorem Pl.new {σ : Sg} {p g a : Addr} {o : AO} (Y : Pl σ p g) (h : σ a = none) : Pl (sset σ a o) p g := by
  obtain ⟨⟨k, m, e1, r⟩, ⟨fs, e2, r2⟩, hne⟩ := Y
  exact ⟨⟨k, m, sset_miss (ne_of h e1) e1, r⟩, ⟨fs, sset_miss (ne_of h e2) e2, r2⟩, hne⟩
/-- forget one -/
noncomputable def drop1 (σ : Sg) (a : Addr) : Sg := fun b => if b = a then none else σ b
theorem drop1_miss {σ : Sg} {a b : Addr} (h : b ≠ a) : drop1 σ a b = σ b := if_neg h
theorem drop1_le {σ : Sg} {a : Addr} : sle (drop1 σ a) σ := fun b o e => by
  by_cases q : b = a
  · rw [drop1, if_pos q] at e; cases e
  · rwa [drop1_miss q] at e
/-- the locals of _law_name in its loop -/
structure LN (lm : LM) (p : Addr) (w : Int) (l : List Nat) : Prop where
  l1 : lm (Str.ofString "pool") = some (.ref p)
  l2 : lm (Str.ofString "way") = some (.int w)
  l3 : lm (Str.ofString "text") = some (.str (S l))
  l4 : lm (Str.ofString "_law_pick") = none
  l5 : lm (Str.ofString "chr") = none
theorem LN.upd {lm : LM} {p : Addr} {w : Int} {l : List Nat} {x : Str} {v : PV} (h : LN lm p w l) (hx : x = Str.ofString "step" ∨ x = Str.ofString "code") : LN (upd lm x v) p w l := by
  rcases hx with rfl | rfl
  all_goals exact ⟨upd_miss (by decide +kernel) h.l1, upd_miss (by decide +kernel) h.l2, upd_miss (by decide +kernel) h.l3, upd_miss (by decide +kernel) h.l4, upd_miss (by decide +kernel) h.l5⟩
theorem LN.text {lm : LM} {p : Addr} {w : Int} {l m : List Nat} (h : LN lm p w l) : LN (Mine.upd lm (Str.ofString "text") (.str (S m))) p w m :=
  ⟨upd_miss (by decide +kernel) h.l1, upd_miss (by decide +kernel) h.l2, upd_hit, upd_miss (by decide +kernel) h.l4, upd_miss (by decide +kernel) h.l5⟩
theorem wordS : Str.ofString "abzAZ09_" = S [97, 98, 122, 65, 90, 48, 57, 95] := by decide +kernel
theorem signS : Str.ofString "+-*/\\^<>=~:.?@#&$" = S [43, 45, 42, 47, 92, 94, 60, 62, 61, 126, 58, 46, 63, 64, 35, 38, 36] := by decide +kernel
section
variable {n d : Nat} {kind : Str → Option NameKind} {σ : Sg} {Q : PV → Sg → Prop}
theorem c_name {p g : Addr} (Y : Pl σ p g) (h : ∀ l σ', nmOk l → Pl σ' p g → (∀ a, a ≠ p → σ' a = σ a) → Q (.str (S l)) σ') : WCf (n + 100) ⟨kind, d + 2⟩ 438 [.ref p] σ Q := by
  refine wcf (f := f_law_name) (lm := upd noLM (Str.ofString "pool") (.ref p)) (by rfl) (by kernel_rfl) ?_
  conv in f_law_name.body => whnf
  repeat' walk_at "w"
  refine c_pick Y (by decide) fun w σ₁ w0 w1 Y₁ fr₁ => ?_
  repeat' walk_at "w"
  · refine ⟨by simp, fun a ha => ?_⟩
    repeat' walk_at "w"
    refine c_pick (Y₁.new ha) (by decide) fun v σ₂ v0 v1 Y₂ fr₂ => ?_
    have hap : a ≠ p := fun q => by obtain ⟨k, m, e, _⟩ := Y₁.hp; rw [q, e] at ha; cases ha
    have hag : a ≠ g := fun q => by obtain ⟨fs, e, _⟩ := Y₁.hg; rw [q, e] at ha; cases ha
    obtain ⟨j, rfl⟩ : ∃ j : Nat, v = j := ⟨v.toNat, by omega⟩
    have hj : j < menuL.length := by show j < 20; omega
    refine wi_list (menuL.map fun l => .str (S l)) (.str (S menuL[j])) ?_ v0 (by omega) (by rw [Int.toNat_natCast, List.getElem?_map, List.getElem?_eq_getElem hj]; rfl) ?_
    · rw [fr₂ a hap, sset_hit]; kernel_rfl
    repeat' walk_at "w"
    refine ret_less (drop1 σ₂ a) drop1_le (h _ _ (menu_ok _ (List.getElem_mem hj)) ?_ fun b hb => ?_)
    · obtain ⟨⟨k, m, e1, r⟩, ⟨fs, e2, r2⟩, hne⟩ := Y₂
      exact ⟨⟨k, m, (drop1_miss hap.symm).trans e1, r⟩, ⟨fs, (drop1_miss hag.symm).trans e2, r2⟩, hne⟩
    · by_cases q : b = a
      · subst q
        rw [show drop1 σ₂ b b = none from if_pos rfl, ← fr₁ b hb, ha]
      · rw [drop1_miss q, fr₂ b hb, sset_miss q rfl, fr₁ b hb]
  · refine c_pick Y₁ (by decide) fun v σ₂ v0 v1 Y₂ fr₂ => ?_
    repeat' walk_at "w"
    refine wt_range (by omega) ?_
    refine ⟨_, rfl, by simp; omega, ?_⟩
    refine forW_rule (I := fun vs lm σ' => ∃ l, LN lm p w l ∧ l.length + vs.length ≤ 5 ∧ (∀ c ∈ l, c ≤ 1114111) ∧ Pl σ' p g ∧ ∀ a, a ≠ p → σ' a = σ a) ?_ ?_ _ _ _ ⟨[], ?_, by simp; omega, by simp, Y₂, fun a ha => (fr₂ a ha).trans (fr₁ a ha)⟩
    · rintro lm σ' ⟨l, ⟨l1, l2, l3, l4, l5⟩, hl, hc, Y₃, fr₃⟩
      repeat' walk_at "w"
      exact ret_same (h l σ' ⟨by simpa using hl, hc⟩ Y₃ fr₃)
    · rintro u vs lm σ' K ⟨l, L, hl, hc, Y₃, fr₃⟩ kn kb kr
      have L2 := L.upd (v := u) (.inl rfl)
      have L3 := L2
      obtain ⟨l1, l2, l3, l4, l5⟩ := L2
      simp only [List.length_cons] at hl
      have go : ∀ (lm' : LM) (c : Nat) σ'', LN lm' p w l → c ≤ 1114111 → Pl σ'' p g → (∀ a, a ≠ p → σ'' a = σ' a) → K .next (Mine.upd lm' (Str.ofString "text") (.str (S (l ++ [c])))) σ'' := fun lm' c σ'' L' h1 Y' f' =>
        kn _ _ ⟨l ++ [c], L'.text, by simp; omega, fun x hx => by rcases List.mem_append.mp hx with q | q; exact hc x q; simp at q; omega, Y', fun a ha => (f' a ha).trans (fr₃ a ha)⟩
      repeat' walk_at "w"
      · refine c_pick Y₃ (by decide) fun v σ₄ v0 v1 Y₄ fr₄ => ?_
        obtain ⟨j, rfl⟩ : ∃ j : Nat, v = j := ⟨v.toNat, by omega⟩
        have hj : j < [97, 98, 122, 65, 90, 48, 57, 95].length := by simp; omega
        refine wi_S wordS rfl (List.getElem?_eq_getElem hj) (by omega) (wb_S rfl rfl (by simp; omega) ?_)
        repeat' walk_at "w"
        exact go _ _ _ L3 ((by decide : ∀ x ∈ [97, 98, 122, 65, 90, 48, 57, 95], x ≤ 1114111) _ (List.getElem_mem hj)) Y₄ fr₄
      · refine c_pick Y₃ (by decide) fun v σ₄ v0 v1 Y₄ fr₄ => ?_
        obtain ⟨j, rfl⟩ : ∃ j : Nat, v = j := ⟨v.toNat, by omega⟩
        repeat' walk_at "w"
        refine wf_chrN (by omega) (wb_S rfl rfl (by simp; omega) ?_)
        repeat' walk_at "w"
        exact go _ _ _ L3 (by omega) Y₄ fr₄
      · refine c_pick Y₃ (by decide) fun v σ₄ v0 v1 Y₄ fr₄ => ?_
        obtain ⟨j, rfl⟩ : ∃ j : Nat, v = j := ⟨v.toNat, by omega⟩
        have hj : j < [43, 45, 42, 47, 92, 94, 60, 62, 61, 126, 58, 46, 63, 64, 35, 38, 36].length := by simp; omega
        refine wi_S signS rfl (List.getElem?_eq_getElem hj) (by omega) (wb_S rfl rfl (by simp; omega) ?_)
        repeat' walk_at "w"
        exact go _ _ _ L3 ((by decide : ∀ x ∈ [43, 45, 42, 47, 92, 94, 60, 62, 61, 126, 58, 46, 63, 64, 35, 38, 36], x ≤ 1114111) _ (List.getElem_mem hj)) Y₄ fr₄
      · refine c_pick Y₃ (by decide) fun v σ₄ v0 v1 Y₄ fr₄ => ?_
        obtain ⟨j, rfl⟩ : ∃ j : Nat, v = j := ⟨v.toNat, by omega⟩
        repeat' walk_at "w"
        refine wb_mul (by omega) (by decide) ?_
        repeat' walk_at "w"
        refine wb_mod (by decide) ?_
        have hm := @fmod_in ((j : Int) * 1327) 1114112 (by decide)
        obtain ⟨c, ec⟩ : ∃ c : Nat, ((j : Int) * 1327).fmod 1114112 = c := ⟨(((j : Int) * 1327).fmod 1114112).toNat, by omega⟩
        rw [ec] at hm ⊢
        have L5 := L3.upd (v := nI c) (.inr rfl)
        repeat' walk_at "w"
        · refine wf_chrN (by omega) (wb_S rfl rfl (by simp; omega) ?_)
          repeat' walk_at "w"
          exact go _ _ _ L5 (by omega) Y₄ fr₄
        · refine wf_chrN (by omega) (wb_S rfl rfl (by simp; omega) ?_)
          repeat' walk_at "w"
          exact go _ _ _ L5 (by omega) Y₄ fr₄
        · refine wf_chrN (c := 65) (by omega) (wb_S rfl rfl (by simp; omega) ?_)
          repeat' walk_at "w"
          exact go _ _ _ L5 (by omega) Y₄ fr₄
    · exact ⟨by walk_at "wv", by walk_at "wv", by rw [show (S [] : Str) = Str.ofString "" by decide +kernel]; walk_at "wv", by walk_at "wv", by walk_at "wv"⟩
end
end
section
theorem slice2 (l : List Nat) : decide (Txt.slice (S l) none (some 2) = Str.ofString "/*") = decide (l.take 2 = [47, 42]) := by
  rw [remS]
  by_cases h : 2 ≤ l.length
  · have := slice_closes_toL (x := S l) (j := 2) (by decide) (by rw [S_len]; omega)
    rw [beq_iff_eq.mp this, S_cps]
    exact eq_S
  · have h1 : Txt.slice (S l) none (some 2) ≠ S [47, 42] := fun e => by
      have := Txt.slice_le (S l) none (some 2)
      rw [e, S_len, S_len] at this
      simp at this; omega
    have h2 : l.take 2 ≠ [47, 42] := fun e => by
      have := congrArg List.length e
      rw [List.length_take] at this
      simp at this; omega
    rw [decide_eq_false h1, decide_eq_false h2]
noncomputable def wordsStr : Str := Str.ofString "abcdefghijklmnopqrstuvwxyz"
noncomputable def bigStr : Str := Str.ofString "ABCDEFGHIJKLMNOPQRSTUVWXYZ"
theorem upper_words : Txt.upper (Str.ofString "abcdefghijklmnopqrstuvwxyz") = bigStr := by decide +kernel
noncomputable def restStr : Str := wordsStr ++ bigStr ++ Str.ofString "_0123456789"
theorem small_in (c : Nat) : Txt.contains (Str.ofString "abcdefghijklmnopqrstuvwxyz") ⟨#[c]⟩ = isSm c := by
  rw [contains_one, show (Str.ofString "abcdefghijklmnopqrstuvwxyz").cps.toList = (List.range 26).map (97 + ·) by decide +kernel]
  unfold isSm
  rw [Bool.eq_iff_iff]
  simp only [decide_eq_true_eq, Bool.and_eq_true, List.mem_map, List.mem_range]
  constructor
  · rintro ⟨a, ha, rfl⟩; omega
  · intro h; exact ⟨c - 97, by omega, by omega⟩
theorem rest_in (c : Nat) : Txt.contains restStr ⟨#[c]⟩ = isAl c := by
  rw [contains_one, show restStr.cps.toList = (List.range 26).map (97 + ·) ++ ((List.range 26).map (65 + ·) ++ (95 :: (List.range 10).map (48 + ·))) by decide +kernel]
  unfold isAl isSm isCp isDg
  rw [Bool.eq_iff_iff]
  simp only [decide_eq_true_eq, Bool.and_eq_true, Bool.or_eq_true, List.mem_map, List.mem_range, List.mem_append, List.mem_cons]
  constructor
  · rintro (⟨a, ha, rfl⟩ | ⟨a, ha, rfl⟩ | rfl | ⟨a, ha, rfl⟩) <;> omega
  · intro h
    rcases h with h | h | h | h
    · exact .inl ⟨c - 97, by omega, by omega⟩
    · exact .inr (.inl ⟨c - 65, by omega, by omega⟩)
    · exact .inr (.inr (.inr ⟨c - 48, by omega, by omega⟩))
    · exact .inr (.inr (.inl (by omega)))
theorem sign_in (c : Nat) : Txt.contains symS ⟨#[c]⟩ = isSy c := by
  unfold isSy
  rw [Int.toNat_natCast, symS_mem, Bool.eq_iff_iff]
  simp only [decide_eq_true_eq, Bool.and_eq_true]
  refine ⟨fun h => ⟨by omega, ?_, h⟩, fun h => h.2.2⟩
  have := (by decide : ∀ c ∈ [43, 45, 42, 47, 92, 94, 60, 62, 61, 126, 58, 46, 63, 64, 35, 38, 36], c < 128) c h
  omega
/-- a mark's code -/
noncomputable def markP (f : Nat → Bool) : PV → Bool
  | .str s => (match s.cps.toList with | [c] => f c | _ => false)
  | _ => false
theorem marks_filter {f : Nat → Bool} (l : List Nat) : ((l.map fun c => PV.str (S [c])).filter (markP f)).map id = ((l.filter f).map fun c => [c]).map fun x => PV.str (S x) := by
  induction l with
  | nil => rfl
  | cons c r ih =>
    rw [List.map_cons, List.filter_cons, List.filter_cons, show markP f (PV.str (S [c])) = f c from rfl]
    cases f c
    · exact ih
    · rw [if_pos rfl, if_pos rfl, List.map_cons, ih]; rfl
theorem nil_iff {α β : Type} (l : List α) (f : α → β) : decide (l.map f = []) = decide (l = []) := by cases l <;> simp
theorem filter_nil {l : List Nat} {f : Nat → Bool} : decide (l.filter f = []) = l.all fun c => !f c := by
  induction l with
  | nil => rfl
  | cons c r ih =>
    rw [List.filter_cons, List.all_cons, ← ih]
    cases f c <;> simp
theorem marks_ok (l : List Nat) (h : ∀ c ∈ l, c ≤ 1114111) : ((l.map fun c => [c]).map S).all PyData.strOk = true := by
  rw [List.all_eq_true]
  intro x hx
  simp only [List.mem_map] at hx
  obtain ⟨y, ⟨c, hc, rfl⟩, rfl⟩ := hx
  have := h c hc
  show ([c].toArray.all (· < 0x110000)) = true
  simp; omega
theorem oneS : strsOf [PV.str (Str.ofString ""), PV.str (Str.ofString ".")] = some ([[], [46]].map S) := by kernel_rfl
theorem len_filter {l : List Nat} {f : Nat → Bool} : decide (((l.filter f).length : Int) = l.length) = l.all f := by
  induction l with
  | nil => rfl
  | cons c r ih =>
    have := List.length_filter_le f r
    rw [List.filter_cons, List.all_cons, ← ih]
    cases hf : f c
    · simp; omega
    · simp only [if_pos, List.length_cons, Bool.true_and, decide_eq_decide]; omega
theorem sle_new {σ τ : Sg} {a : Addr} {o : AO} (h : τ a = none) (l : sle σ τ) : sle σ (sset τ a o) := fun b u e => sset_miss (ne_of h (l b u e)) (l b u e)
theorem bare_tail {l : List Nat} (h1 : alnumName l = false) (h2 : decide (l ∈ fourL) = false) : plainL l = (!decide (l ∈ [[], [46]]) && (!decide (l.take 2 = [47, 42]) && l.all fun c => isSy c)) := by
  unfold plainL
  rw [h1, h2]
  cases l with
  | nil => rfl
  | cons c r =>
    rw [show decide (c :: r ∈ [[], [46]]) = decide (c :: r = [46]) by simp]
    show ((c :: r).all (fun c => isSy c) && _) = _
    cases (c :: r).all (fun c => isSy c) <;> cases decide (c :: r = [46]) <;> cases decide ((c :: r).take 2 = [47, 42]) <;> rfl
theorem bare_head {c : Nat} {r : List Nat} (h1 : isSm c = true) (h2 : decide (c :: r ∈ fourL) = false) : plainL (c :: r) = (c :: r).all fun c => isAl c := by
  unfold plainL
  rw [h2]
  have e : alnumName (c :: r) = (c :: r).all fun c => isAl c := by show (isSm c && _) = _; rw [h1]; rfl
  rw [e]
  cases hh : (c :: r).all fun c => isAl c with
  | true => rfl
  | false =>
    have : symName (c :: r) = false := by
      show (c :: r).all (fun c => isSy c) = false
      rw [List.all_cons]
      have : isSy c = false := by
        cases hs : isSy c with
        | false => rfl
        | true =>
          obtain ⟨c', e, hc⟩ := isSy_mem hs
          have := (sy_facts c' hc).1.2.2.1
          rw [← e, h1] at this; cases this
      rw [this]; rfl
    rw [this]; rfl
section
variable {n d : Nat} {kind : Str → Option NameKind} {σ : Sg} {Q : PV → Sg → Prop}
theorem c_bare {l : List Nat} (hl : l.length ≤ 1000) (hc : ∀ c ∈ l, c ≤ 1114111) (h : Q (.bool (plainL l)) σ) : WCf (n + 100) ⟨kind, d + 1⟩ 443 [.str (S l)] σ Q := by
  refine wcf (f := f_law_bare) (lm := upd noLM (Str.ofString "text") (.str (S l))) (by rfl) (by kernel_rfl) ?_
  conv in f_law_bare.body => whnf
  have fin : ∀ b τ lm, sle σ τ → b = plainL l → retW Q (.ret (.bool b)) lm τ := fun b τ lm hle e => ret_less σ hle (e ▸ h)
  have go : alnumName l = false → decide (l ∈ fourL) = false → (∀ c r, l = c :: r → isSm c = false) → ∀ τ, sle σ τ → thenW (n + 96) ⟨f_law_bare.kind, d⟩ (f_law_bare.body.drop 3) (retW Q) .next (upd (upd noLM (Str.ofString "text") (.str (S l))) (Str.ofString "words") (.str (Str.ofString "abcdefghijklmnopqrstuvwxyz"))) τ := by
    intro h1 h2 h3 τ hle
    conv in List.drop _ _ => whnf
    refine then_next (ws_cons (ws_setC (markP fun c => isSy c) id (by kernel_rfl) (by kernel_rfl) (by kernel_rfl) (by kernel_rfl) ?_))
    repeat' walk_at "w"
    refine wlc (l.map fun c => .str (S [c])) (by show some _ = some _; rw [S_cps]) (by simp; omega) (by simp [isSI]) ?_ ?_ ?_
    · intro v hv
      obtain ⟨c, hc', rfl⟩ := List.mem_map.mp hv
      repeat' walk_at "w"
      exact sign_in c
    · intro v hv _
      obtain ⟨c, hc', rfl⟩ := List.mem_map.mp hv
      repeat' walk_at "w"
      exact ⟨rfl, rfl⟩
    intro b hb
    rw [marks_filter]
    repeat' walk_at "w"
    refine ⟨by decide, fun a ha => ?_⟩
    have hab : a ≠ b := fun q => by rw [q, sset_hit] at ha; cases ha
    repeat' walk_at "w"
    refine wc_ninL ([[], [46]].map S) sset_hit oneS ?_
    rw [mem_S]
    have hle2 := sle_new (o := .list [PV.str (Str.ofString ""), PV.str (Str.ofString ".")]) ha (sle_new (o := .list (((l.filter fun c : Nat => isSy c).map fun c => [c]).map fun x => PV.str (S x))) hb hle)
    have hbt := bare_tail h1 h2
    have hsb : sset (sset τ b (.list (((l.filter fun c : Nat => isSy c).map fun c => [c]).map fun x => PV.str (S x)))) a (.list [PV.str (Str.ofString ""), PV.str (Str.ofString ".")]) b = some (.list (((l.filter fun c : Nat => isSy c).map fun c => [c]).map fun x => PV.str (S x))) := sset_miss hab.symm sset_hit
    have hfl := List.length_filter_le (fun c : Nat => isSy c) l
    repeat' walk_at "w"
    · rename_i k1
      refine wcut_str (by rw [S_len]; omega) ?_
      repeat' walk_at "w"
      · rename_i k2
        rw [slice2] at k2
        refine wf_lenL _ hsb (by simp; omega) ?_
        repeat' walk_at "w"
        refine wf_lenS (by rw [S_len]; omega) ?_
        repeat' walk_at "w"
        refine fin _ _ _ hle2 ?_
        rw [hbt, k1, k2, S_len, List.length_map, List.length_map, len_filter]; rfl
      · rename_i k2
        rw [slice2] at k2
        exact fin _ _ _ hle2 (by rw [hbt, k1, k2]; rfl)
    · rename_i k1
      exact fin _ _ _ hle2 (by rw [hbt, k1]; rfl)
  conv at go in List.drop _ _ => whnf
  repeat' walk_at "w"
  refine ⟨by decide, fun a ha => ?_⟩
  repeat' walk_at "w"
  refine wc_inL (fourL.map S) sset_hit fourS ?_
  rw [mem_S]
  have hs1 : sle σ (sset σ a (AO.list [PV.str (Str.ofString "[]"), PV.str (Str.ofString "{}"), PV.str (Str.ofString "!"), PV.str (Str.ofString ";")])) := sle_sset ha (sle_refl σ)
  refine wif (fun hb => ?_) (fun hb => ?_)
  · repeat' walk_at "w"
    exact fin _ _ _ hs1 (by unfold plainL; rw [hb]; rfl)
  cases l with
  | nil =>
    have e0 : (!decide (S [] = Str.ofString "")) = false := by decide +kernel
    repeat' (first | (with_reducible refine go ?_ ?_ ?_ _ ?_) | walk_at "wq" | walk_at "w")
    · rfl
    · exact hb
    · exact fun _ _ e => nomatch e
    · exact hs1
  | cons c r =>
    have e0 : (!decide (S (c :: r) = Str.ofString "")) = true := by rw [emptyS, eq_S]; simp
    repeat' (first | walk_at "wq" | walk_at "w")
    refine wi_str c (by decide) (by decide) rfl ?_
    repeat' (first | (with_reducible refine go ?_ ?_ ?_ _ ?_) | (with_reducible refine ws_setK (x := Str.ofString "rest") (by kernel_rfl) (by kernel_rfl) ?_) | walk_at "w")
    · rename_i hsm
      rw [small_in] at hsm
      refine wm_upper (by decide +kernel) ?_
      rw [upper_words]
      repeat' walk_at "w"
      refine wb_str (by decide +kernel) ?_
      repeat' walk_at "w"
      refine wb_str (by decide +kernel) ?_
      repeat' walk_at "w"
      refine we_comp (markP fun c => !isAl c) id (by kernel_rfl) (by kernel_rfl) ?_
      repeat' walk_at "w"
      refine wlc ((c :: r).map fun c => .str (S [c])) (by show some _ = some _; rw [S_cps]) (by simp at hl ⊢; omega) (by simp [isSI]) ?_ ?_ ?_
      · intro v hv
        obtain ⟨c', hc', rfl⟩ := List.mem_map.mp hv
        repeat' walk_at "w"
        exact congrArg (fun b => !b) (rest_in c')
      · intro v hv _
        obtain ⟨c', hc', rfl⟩ := List.mem_map.mp hv
        repeat' walk_at "w"
        exact ⟨rfl, rfl⟩
      intro b hb2
      rw [marks_filter]
      repeat' walk_at "w"
      refine ⟨by decide, fun b2 hb3 => ?_⟩
      repeat' walk_at "w"
      have hbb : b2 ≠ b := fun q => by rw [q, sset_hit] at hb3; cases hb3
      refine wc_eqL _ ((((c :: r).filter fun c : Nat => !isAl c).map fun c => [c]).map S) (sset_miss hbb.symm sset_hit) sset_hit (strsOf_S _) (marks_ok _ fun x hx => hc x (List.mem_filter.mp hx).1) ?_
      repeat' walk_at "w"
      refine fin _ _ _ (sle_new hb3 (sle_new hb2 hs1)) ?_
      rw [nil_iff, nil_iff, filter_nil, bare_head hsm hb]
      simp
    · rename_i hsm
      rw [small_in] at hsm
      show (isSm c && _) = false
      rw [hsm]; rfl
    · exact hb
    · rename_i hsm
      rw [small_in] at hsm
      exact fun c' r' e => by cases e; exact hsm
    · exact hs1
end
end
section
theorem hexD_ok : ∀ a, a < 16 → 32 ≤ hexD a ∧ hexD a ≠ 127 ∧ hexD a ≤ 1114111 := by decide +kernel
theorem esc_ok {c x : Nat} (hc : c ≤ 1114111) (h : x ∈ escL c) : 32 ≤ x ∧ x ≠ 127 ∧ x ≤ 1114111 := by
  by_cases h1 : c = 39 ∨ c = 92
  · rw [escL1 h1] at h; simp at h; omega
  by_cases h2 : 7 ≤ c ∧ c ≤ 13
  · rw [escL2 h2.1 h2.2] at h
    have := (by decide +kernel : ∀ k, k < 7 → 32 ≤ [97, 98, 116, 110, 118, 102, 114].getD k 0 ∧ [97, 98, 116, 110, 118, 102, 114].getD k 0 ≠ 127 ∧ [97, 98, 116, 110, 118, 102, 114].getD k 0 ≤ 1114111) (c - 7) (by omega)
    rcases List.mem_append.mp h with h | h
    · simp at h; omega
    · rw [List.mem_singleton] at h; rw [h]; exact this
  by_cases h3 : c < 32 ∨ c = 127
  · rw [escL3 h2 h3] at h
    have e1 := hexD_ok (c / 16) (by omega)
    have e2 := hexD_ok (c % 16) (by omega)
    simp only [List.mem_append, List.mem_cons, List.not_mem_nil, or_false] at h
    omega
  · rw [escL4 (by omega) (by omega) (by omega) (by omega)] at h
    rw [List.mem_singleton] at h; omega
theorem escL_pos (c : Nat) : 1 ≤ (escL c).length := by
  unfold escL
  split
  · simp
  split
  · simp
  split <;> simp
theorem flat_len (l : List Nat) : l.length ≤ (l.flatMap escL).length ∧ (l.flatMap escL).length ≤ 5 * l.length := by
  induction l with
  | nil => exact ⟨Nat.le_refl _, Nat.le_refl _⟩
  | cons c r ih =>
    rw [List.flatMap_cons, List.length_append, List.length_cons]
    have := escL_pos c
    have := escL_len c
    omega
theorem quo_len (l : List Nat) : l.length + 2 ≤ (quoL l).length ∧ (quoL l).length ≤ 5 * l.length + 2 := by
  have := flat_len l
  unfold quoL
  rw [List.length_cons, List.length_append, List.length_singleton]
  omega
theorem text_len (l : List Nat) : (textL l).length ≤ 5 * l.length + 2 := by
  have := quo_len l
  unfold textL
  split <;> omega
theorem text_eq (l : List Nat) : decide (S (textL l) = S l) = plainL l := by
  rw [eq_S]
  unfold textL
  cases plainL l with
  | true => rw [if_pos rfl]; simp
  | false =>
    rw [if_neg (by decide)]
    refine decide_eq_false fun e => ?_
    have := quo_len l
    rw [e] at this; omega
theorem al_ok {c : Nat} (h : isAl c = true) : 32 ≤ c ∧ c ≠ 127 := by
  unfold isAl isSm isCp isDg at h
  simp only [Bool.and_eq_true, Bool.or_eq_true, decide_eq_true_eq] at h
  omega
theorem sy_ok {c : Nat} (h : isSy c = true) : 32 ≤ c ∧ c ≠ 127 := by
  obtain ⟨c', e, hc⟩ := isSy_mem h
  have := (by decide : ∀ c ∈ [43, 45, 42, 47, 92, 94, 60, 62, 61, 126, 58, 46, 63, 64, 35, 38, 36], 32 ≤ c ∧ c ≠ 127) c' hc
  omega
/-- the ways of a bare name -/
theorem plain_cases {l : List Nat} (h : plainL l = true) : l ∈ fourL ∨ (∃ c r, l = c :: r ∧ isSm c = true ∧ ∀ x ∈ l, isAl x = true) ∨ (∃ c r, l = c :: r ∧ (∀ x ∈ l, isSy x = true) ∧ l ≠ [46] ∧ l.take 2 ≠ [47, 42]) := by
  unfold plainL at h
  simp only [Bool.or_eq_true, Bool.and_eq_true, decide_eq_true_eq, Bool.not_eq_true', decide_eq_false_iff_not] at h
  rcases h with h | h | ⟨h, h1, h2⟩
  · exact .inl h
  · cases l with
    | nil => cases h
    | cons c r =>
      replace h : (isSm c && (c :: r).all fun c => isAl c) = true := h
      rw [Bool.and_eq_true, List.all_eq_true] at h
      exact .inr (.inl ⟨c, r, rfl, h⟩)
  · cases l with
    | nil => cases h
    | cons c r =>
      replace h : ((c :: r).all fun c => isSy c) = true := h
      rw [List.all_eq_true] at h
      exact .inr (.inr ⟨c, r, rfl, h, h1, h2⟩)
theorem text_ok {l : List Nat} (h : ∀ c ∈ l, c ≤ 1114111) : ∀ c ∈ textL l, 32 ≤ c ∧ c ≠ 127 ∧ c ≤ 1114111 := by
  intro x hx
  unfold textL at hx
  cases hp : plainL l with
  | true =>
    rw [hp, if_pos rfl] at hx
    have h0 := h x hx
    rcases plain_cases hp with q | ⟨c, r, e, _, q⟩ | ⟨c, r, e, q, _⟩
    · have := (by decide : ∀ m ∈ fourL, ∀ x ∈ m, 32 ≤ x ∧ x ≠ 127) l q x hx
      exact ⟨this.1, this.2, h0⟩
    · have := al_ok (q x hx); exact ⟨this.1, this.2, h0⟩
    · have := sy_ok (q x hx); exact ⟨this.1, this.2, h0⟩
  | false =>
    rw [hp, if_neg (by decide)] at hx
    unfold quoL at hx
    rw [List.mem_cons, List.mem_append, List.mem_flatMap, List.mem_singleton] at hx
    rcases hx with rfl | ⟨c, hc, hx⟩ | rfl
    · decide
    · exact esc_ok (h c hc) hx
    · decide
theorem codeAt_get {l : List Nat} {j : Nat} (h : j < l.length) : codeAt l j = (l[j] : Nat) := by
  unfold codeAt; rw [List.getElem?_eq_getElem h]
theorem text_tok {l : List Nat} (h0 : l.length ≤ 5) (h : ∀ c ∈ l, c ≤ 1114111) (hn : decide (l ∈ [[91, 93], [123, 125]]) = false) : Nx (textL l) 0 (if plainL l = true then Str.ofString "name" else Str.ofString "qname") (S l) (textL l).length := by
  unfold textL
  cases hp : plainL l with
  | false =>
    rw [if_neg (by decide), if_neg (by decide)]
    exact .quo l rfl rfl (by omega) h
  | true =>
    rw [if_pos rfl, if_pos rfl]
    have eS : S ((l.take l.length).drop 0) = S l := by rw [List.take_length, List.drop_zero]
    rcases plain_cases hp with q | ⟨c, r, e, hs, q⟩ | ⟨c, r, e, q, hd, hr⟩
    · have hn' := of_decide_eq_false hn
      have : l = [33] ∨ l = [59] := by
        unfold fourL at q
        simp only [List.mem_cons, List.not_mem_nil, or_false] at q hn'
        rcases q with rfl | rfl | q | q
        · exact absurd (.inl rfl) hn'
        · exact absurd (.inr rfl) hn'
        · exact .inl q
        · exact .inr q
      rcases this with rfl | rfl
      · exact .solo 33 rfl (by decide)
      · exact .solo 59 rfl (by decide)
    · rw [← eS]
      refine .word l.length ?_ (Nat.zero_le _) (Nat.le_refl _) (by omega) (fun j _ hj => ?_) ?_
      · subst e; exact hs
      · rw [codeAt_get hj]; exact q _ (List.getElem_mem hj)
      · rw [codeAt_end (Nat.le_refl _)]; decide
    · rw [← eS]
      have hsy : ∀ j, j < l.length → isSy (codeAt l j) = true := fun j hj => by rw [codeAt_get hj]; exact q _ (List.getElem_mem hj)
      refine .sym l.length ?_ (fun e47 e42 => ?_) (Nat.zero_le _) (Nat.le_refl _) (by omega) (fun j _ hj => hsy j hj) ?_ (fun e46 => ?_)
      · subst e; exact hsy 0 (by simp)
      · subst e
        cases r with
        | nil => exact absurd (show (-1 : Int) = 42 from e42) (by decide)
        | cons d r =>
          have e1 : ((c : Nat) : Int) = 47 := e47
          have e2 : ((d : Nat) : Int) = 42 := e42
          have : c = 47 := by omega
          have : d = 42 := by omega
          subst c d
          exact hr rfl
      · rw [codeAt_end (Nat.le_refl _)]; decide
      · subst e
        have e1 : ((c : Nat) : Int) = 46 := e46
        have : c = 46 := by omega
        subst c
        cases r with
        | nil => exact absurd rfl hd
        | cons d r =>
          obtain ⟨d', e', hd'⟩ := isSy_mem (q d (by simp))
          have := sy_facts d' hd'
          show (decide (((d : Nat) : Int) = -1) || (decide (((d : Nat) : Int) = 37) || isLy ((d : Nat) : Int))) = false
          rw [e', this.1.1]
          have := this.2.2.2.2.2
          simp; omega
theorem end_tok (l : List Nat) : Nx l l.length (Str.ofString "eof") (Str.ofString "") l.length := .eof (Nat.le_refl _)
theorem pair_text {l : List Nat} (h : decide (l ∈ [[91, 93], [123, 125]]) = true) : textL l = l ∧ ∃ a b, l = [a, b] ∧ Nx l 0 (Str.ofString "punct") (S [a]) 1 ∧ Nx l 1 (Str.ofString "punct") (S [b]) 2 := by
  have h := of_decide_eq_true h
  simp only [List.mem_cons, List.not_mem_nil, or_false] at h
  rcases h with rfl | rfl
  · exact ⟨by decide +kernel, 91, 93, rfl, .pun 91 rfl (by decide), .pun 93 rfl (by decide)⟩
  · exact ⟨by decide +kernel, 123, 125, rfl, .pun 123 rfl (by decide), .pun 125 rfl (by decide)⟩
end
section
theorem sle_upd {σ τ : Sg} {a : Addr} {o : AO} (h : σ a = none) (l : sle σ τ) : sle σ (sset τ a o) := sle_sset h l
theorem Pl.eqv {σ σ' : Sg} {p g : Addr} (Y : Pl σ p g) (h1 : σ' p = σ p) (h2 : σ' g = σ g) : Pl σ' p g := by
  obtain ⟨⟨k, m, e1, r⟩, ⟨fs, e2, r2⟩, hne⟩ := Y
  exact ⟨⟨k, m, h1.trans e1, r⟩, ⟨fs, h2.trans e2, r2⟩, hne⟩
theorem Pl.le {σ σ' : Sg} {p g : Addr} (Y : Pl σ p g) (h : sle σ σ') : Pl σ' p g := by
  obtain ⟨⟨k, m, e1, r⟩, ⟨fs, e2, r2⟩, hne⟩ := Y
  exact ⟨⟨k, m, h _ _ e1, r⟩, ⟨fs, h _ _ e2, r2⟩, hne⟩
theorem Sym.eqv {σ σ' : Sg} {s dx tx an fx fd : Addr} {ts : List Str} {K : Nat} (Y : Sym σ s dx tx an fx fd ts K) (h : ∀ a, σ a ≠ none → a = s ∨ a = dx ∨ a = tx ∨ a = an ∨ a = fx ∨ a = fd → σ' a = σ a) : Sym σ' s dx tx an fx fd ts K := by
  have k : ∀ a o, σ a = some o → a = s ∨ a = dx ∨ a = tx ∨ a = an ∨ a = fx ∨ a = fd → σ' a = some o := fun a o e m => (h a (by rw [e]; exact nofun) m).trans e
  obtain ⟨ys, hf, hy⟩ := Y.hfx
  refine ⟨k _ _ Y.hs (by simp), k _ _ Y.hdx (by simp), k _ _ Y.htx (by simp), Y.han.imp (fun e => k _ _ e (by simp)) ?_, ⟨ys, k _ _ hf (by simp), hy⟩, Y.hfd.imp (fun e => k _ _ e (by simp)) ?_, Y.ne⟩
  · rintro ⟨m, f, e, r⟩; exact ⟨m, f, k _ _ e (by simp), r⟩
  · rintro ⟨m, f, e, r⟩; exact ⟨m, f, k _ _ e (by simp), r⟩
theorem Sym.le {σ σ' : Sg} {s dx tx an fx fd : Addr} {ts : List Str} {K : Nat} (Y : Sym σ s dx tx an fx fd ts K) (h : sle σ σ') : Sym σ' s dx tx an fx fd ts K :=
  Y.eqv fun a ha _ => by
    cases e : σ a with
    | none => exact absurd e ha
    | some o => exact h _ _ e
/-- the locals of law in its loop -/
structure LL (lm : LM) (p s : Addr) : Prop where
  l1 : lm (Str.ofString "pool") = some (.ref p)
  l2 : lm (Str.ofString "book") = some (.ref s)
  l3 : lm (Str.ofString "_law_name") = none
  l4 : lm (Str.ofString "atom_text") = none
  l5 : lm (Str.ofString "_law_bare") = none
  l6 : lm (Str.ofString "Tokenizer") = none
  l7 : lm (Str.ofString "len") = none
theorem LL.upd {lm : LM} {p s : Addr} {x : Str} {v : PV} (h : LL lm p s) (hx : x = Str.ofString "step" ∨ x = Str.ofString "name" ∨ x = Str.ofString "number" ∨ x = Str.ofString "text" ∨ x = Str.ofString "tokenizer") : LL (upd lm x v) p s := by
  rcases hx with rfl | rfl | rfl | rfl | rfl
  all_goals exact ⟨upd_miss (by decide +kernel) h.l1, upd_miss (by decide +kernel) h.l2, upd_miss (by decide +kernel) h.l3, upd_miss (by decide +kernel) h.l4, upd_miss (by decide +kernel) h.l5, upd_miss (by decide +kernel) h.l6, upd_miss (by decide +kernel) h.l7⟩
theorem pairS : strsOf [PV.str (Str.ofString "[]"), PV.str (Str.ofString "{}")] = some ([[91, 93], [123, 125]].map S) := by kernel_rfl
theorem tok_flat {k : Str} {x : Str} {i : Int} : flatOf [PV.str k, PV.str x, PV.int i] = some [.inl k, .inl x, .inr i] := rfl
theorem tok_ok {k x : Str} {i : Int} (h1 : PyData.strOk k = true) (h2 : PyData.strOk x = true) : [Sum.inl k, .inl x, .inr i].all flatOk = true := by
  show (PyData.strOk k && (PyData.strOk x && true)) = true
  rw [h1, h2]; rfl
theorem S_ok {l : List Nat} (h : ∀ c ∈ l, c ≤ 1114111) : PyData.strOk (S l) = true := by
  show l.toArray.all (fun c => decide (c < 0x110000)) = true
  rw [← Array.all_toList]
  simp only [List.all_eq_true, decide_eq_true_eq]
  intro c hc
  have := h c hc; omega
noncomputable def ordF : PV → PV
  | .str s => nI (s.cps.toList.headD 0)
  | _ => .none
theorem ord_map (l : List Nat) : ((l.map fun c => PV.str (S [c])).filter fun _ => true).map ordF = l.map nI := by
  rw [filter_tt, List.map_map]; rfl
theorem no_low {l : List Nat} (h : ∀ c ∈ textL l, 32 ≤ c ∧ c ≠ 127 ∧ c ≤ 1114111) : (textL l).filter (fun c : Nat => decide ((c : Int) < 32) || decide ((c : Int) = 127)) = [] := by
  rw [List.filter_eq_nil_iff]
  intro c hc
  have := h c hc
  simp; omega
noncomputable def ifT : List Stmt → List Stmt
  | .If _ a _ _ :: _ => a
  | _ => []
noncomputable def ifE : List Stmt → List Stmt
  | .If _ _ b _ :: _ => b
  | _ => []
theorem wc_neTT {xs ys : List PV} {σ : Sg} {K : Bool → Prop} {l m : List (Str ⊕ Int)} (e1 : flatOf xs = some l) (e2 : flatOf ys = some m) (q1 : l.all flatOk = true) (e : l = m) (h : K false) : WCmp .NotEq (.tup xs) (.tup ys) σ K :=
  .neT l m e1 e2 q1 (e ▸ q1) (by rw [decide_eq_true e]; exact h)
theorem lit_ok : PyData.strOk (Str.ofString "eof") = true ∧ PyData.strOk (Str.ofString "") = true ∧ PyData.strOk (Str.ofString "punct") = true ∧ PyData.strOk (Str.ofString "name") = true ∧ PyData.strOk (Str.ofString "qname") = true := by decide +kernel
section
variable {n d : Nat} {K : Fl → LM → Sg → Prop} {lm : LM} {τ σ₅ : Sg} {p s t dt cl : Addr} {x : List Nat}
theorem c_law_eof (L : LL lm p s) (e1 : lm (Str.ofString "tokenizer") = some (.ref t)) (e2 : lm (Str.ofString "text") = some (.str (S x))) (Y : Tk τ t dt cl x x.length) (hle : sle σ₅ τ) (hd : σ₅ dt = none) (fin : ∀ τ', sle σ₅ τ' → K .next lm τ') :
    thenW (n + 388) ⟨f_law.kind, d + 8⟩ ((forBody (f_law.body.drop 2)).drop 7) K .next lm τ := by
  conv in List.drop 7 _ => whnf
  obtain ⟨l1, l2, l3, l4, l5, l6, l7⟩ := L
  have hx := Y.len
  repeat' walk_at "w"
  refine wg_inst 413 dt _ 319 Y.ht Y.hdt (by kernel_rfl) (by kernel_rfl) ?_
  repeat' walk_at "w"
  refine c_next Y (by omega) (end_tok x) ?_
  repeat' walk_at "w"
  refine wf_lenS (by rw [S_len]; omega) ?_
  repeat' walk_at "w"
  refine ⟨by simp, ?_⟩
  refine wc_neTT tok_flat tok_flat (tok_ok lit_ok.1 lit_ok.2.1) (by rw [S_len]) ?_
  repeat' (first | walk_at "wq" | walk_at "w")
  exact fin _ (sle_upd hd hle)
theorem c_law_pair {a b : Nat} (e1 : lm (Str.ofString "tokenizer") = some (.ref t)) (e2 : lm (Str.ofString "name") = some (.str (S [a, b]))) (ha : a ≤ 1114111) (hb : b ≤ 1114111)
    (N1 : Nx [a, b] 0 (Str.ofString "punct") (S [a]) 1) (N2 : Nx [a, b] 1 (Str.ofString "punct") (S [b]) 2) (Y : Tk τ t dt cl [a, b] 0) (hle : sle σ₅ τ) (hd : σ₅ dt = none)
    (fin : ∀ τ', Tk τ' t dt cl [a, b] 2 → sle σ₅ τ' → K .next lm τ') : WSS (n + 387) ⟨f_law.kind, d + 8⟩ (ifT ((forBody (f_law.body.drop 2)).drop 6)) lm τ K := by
  conv in ifT _ => whnf
  repeat' walk_at "w"
  refine wg_inst 413 dt _ 319 Y.ht Y.hdt (by kernel_rfl) (by kernel_rfl) ?_
  repeat' walk_at "w"
  refine c_next Y (by decide) N1 ?_
  have Y2 := Y.move (j := 1)
  have h2 := sle_upd (o := fldT cl 1) hd hle
  generalize sset τ dt (fldT cl 1) = τ₂ at Y2 h2 ⊢
  repeat' walk_at "w"
  refine wi_S rfl (j := 0) rfl rfl (by decide) ?_
  repeat' walk_at "w"
  refine ⟨by simp, ?_⟩
  refine wc_neTT tok_flat tok_flat (tok_ok lit_ok.2.2.1 (S_ok (by simpa using ha))) rfl ?_
  repeat' (first | walk_at "wq" | walk_at "w")
  refine wg_inst 413 dt _ 319 Y2.ht Y2.hdt (by kernel_rfl) (by kernel_rfl) ?_
  repeat' walk_at "w"
  refine c_next Y2 (by decide) N2 ?_
  have Y3 := Y2.move (j := 2)
  have h3 := sle_upd (o := fldT cl 2) hd h2
  generalize sset τ₂ dt (fldT cl 2) = τ₃ at Y3 h3 ⊢
  repeat' walk_at "w"
  refine wi_S rfl (j := 1) rfl rfl (by decide) ?_
  repeat' walk_at "w"
  refine ⟨by simp, ?_⟩
  refine wc_neTT tok_flat tok_flat (tok_ok lit_ok.2.2.1 (S_ok (by simpa using hb))) rfl ?_
  repeat' (first | walk_at "wq" | walk_at "w")
  exact fin _ Y3 h3
theorem c_law_one {l : List Nat} (L : LL lm p s) (e1 : lm (Str.ofString "tokenizer") = some (.ref t)) (e2 : lm (Str.ofString "name") = some (.str (S l))) (h0 : l.length ≤ 5) (hc : ∀ c ∈ l, c ≤ 1114111) (hn : decide (l ∈ [[91, 93], [123, 125]]) = false)
    (Y : Tk τ t dt cl (textL l) 0) (hle : sle σ₅ τ) (hd : σ₅ dt = none)
    (fin : ∀ τ', Tk τ' t dt cl (textL l) (textL l).length → sle σ₅ τ' → K .next lm τ') : WSS (n + 387) ⟨f_law.kind, d + 8⟩ (ifE ((forBody (f_law.body.drop 2)).drop 6)) lm τ K := by
  conv in ifE _ => whnf
  obtain ⟨l1, l2, l3, l4, l5, l6, l7⟩ := L
  repeat' walk_at "w"
  refine wg_inst 413 dt _ 319 Y.ht Y.hdt (by kernel_rfl) (by kernel_rfl) ?_
  repeat' walk_at "w"
  refine c_next Y (by decide) (text_tok h0 hc hn) ?_
  have Y2 := Y.move (j := (textL l).length)
  have h2 := sle_upd (o := fldT cl (textL l).length) hd hle
  generalize sset τ dt (fldT cl (textL l).length) = τ₂ at Y2 h2 ⊢
  repeat' walk_at "w"
  refine c_bare (by omega) hc ?_
  repeat' walk_at "w"
  · rename_i hp
    rw [hp, if_pos rfl]
    refine ⟨by simp, ?_⟩
    refine wc_neTT tok_flat tok_flat (tok_ok lit_ok.2.2.2.1 (S_ok hc)) rfl ?_
    repeat' (first | walk_at "wq" | walk_at "w")
    exact fin _ Y2 h2
  · rename_i hp
    rw [hp, if_neg (by decide)]
    refine ⟨by simp, ?_⟩
    refine wc_neTT tok_flat tok_flat (tok_ok lit_ok.2.2.2.2 (S_ok hc)) rfl ?_
    repeat' (first | walk_at "wq" | walk_at "w")
    exact fin _ Y2 h2
end
end
section
section
variable {n d : Nat} {kind : Str → Option NameKind}
theorem c_law {script : List Int} {σ : Sg} (hs : script.length ≤ 63) : WCf (n + 400) ⟨kind, d + 9⟩ 448 [.blist script] σ (fun v _ => v = .bool true) := by
  refine wcf (f := f_law) (lm := upd noLM (Str.ofString "script") (.blist script)) (by rfl) (by kernel_rfl) ?_
  conv in f_law.body => whnf
  repeat' walk_at "w"
  refine c_pool (by omega) fun p g σ₁ Y₁ hl₁ => ?_
  repeat' (first | (with_reducible refine wca_cls (a := 258) (fi := 185) (by kernel_rfl) ?_) | walk_at "w")
  intro s dx hsd hs0 hd0
  have P0 := Y₁
  obtain ⟨⟨k, m, ep, _⟩, ⟨fs, eg, _⟩, hpg⟩ := P0
  have hps : p ≠ s := ne_of hs0 ep
  have hpd : p ≠ dx := ne_of hd0 ep
  have hgs : g ≠ s := ne_of hs0 eg
  have hgd : g ≠ dx := ne_of hd0 eg
  refine c_Symbols hsd sset_hit (sset_miss hsd.symm sset_hit) fun σ₂ tx an fx fd ts Y₂ ht₂ fr₂ => ⟨rfl, ?_⟩
  obtain ⟨ep', p1, p2, p3, p4⟩ := fr₂ p _ (sset_miss hps (sset_miss hpd ep)) hps hpd
  obtain ⟨eg', g1, g2, g3, g4⟩ := fr₂ g _ (sset_miss hgs (sset_miss hgd eg)) hgs hgd
  have P₂ : Pl σ₂ p g := Y₁.eqv (ep'.trans ep.symm) (eg'.trans eg.symm)
  repeat' walk_at "w"
  refine c_pick P₂ (by decide) fun v σ₃ v0 v1 P₃ fr₃ => ?_
  have Y₃ : Sym σ₃ s dx tx an fx fd ts 100 := Y₂.eqv fun a _ hm => fr₃ a (by rintro rfl; rcases hm with q | q | q | q | q | q <;> first | exact hps q | exact hpd q | exact p1 q | exact p2 q | exact p3 q | exact p4 q)
  repeat' walk_at "w"
  refine wt_range (by omega) ?_
  refine ⟨_, rfl, by simp; omega, ?_⟩
  refine forW_rule (I := fun vs lm σ' => LL lm p s ∧ Pl σ' p g ∧ ∃ ts, Sym σ' s dx tx an fx fd ts 100 ∧ ts.length + vs.length ≤ 104) ?_ ?_ _ _ _ ⟨?_, P₃, ts, Y₃, by simp; omega⟩
  · rintro lm σ' ⟨L, P, ts, Y, hl⟩
    repeat' walk_at "w"
    exact ret_same rfl
  · rintro u vs lm σ' K ⟨L, P, ts, Y, hl⟩ kn kb kr
    have L0 := L.upd (v := u) (.inl rfl)
    obtain ⟨l1, l2, l3, l4, l5, l6, l7⟩ := L0
    simp only [List.length_cons] at hl
    repeat' walk_at "w"
    refine c_name P fun l σ₄ ⟨hl5, hc⟩ P₄ fr₄ => ?_
    have Y₄ : Sym σ₄ s dx tx an fx fd ts 100 := Y.eqv fun a _ hm => fr₄ a (by rintro rfl; rcases hm with q | q | q | q | q | q <;> first | exact hps q | exact hpd q | exact p1 q | exact p2 q | exact p3 q | exact p4 q)
    repeat' walk_at "w"
    refine wg_inst 258 dx _ 192 Y₄.hs Y₄.hdx (by kernel_rfl) (by kernel_rfl) ?_
    repeat' walk_at "w"
    refine c_atom Y₄ (by omega) fun σ₅ ts₅ i Y₅ hi hl₅ hi5 fr₅ => ?_
    have P₅ : Pl σ₅ p g := P₄.eqv (fr₅ p p1 p2) (fr₅ g g1 g2)
    have e6 : (ts₅.map PV.str)[i]? = some (.str (S l)) := by rw [List.getElem?_map, hi]; rfl
    repeat' walk_at "w"
    refine c_atom_text (q := true) Y₅.hs Y₅.hdx (by kernel_rfl) (by kernel_rfl) Y₅.htx e6 (by kernel_rfl) (by omega) (by omega) hc ?_
    rw [if_pos rfl]
    repeat' walk_at "w"
    refine c_atom_text (q := false) Y₅.hs Y₅.hdx (by kernel_rfl) (by kernel_rfl) Y₅.htx e6 (by kernel_rfl) (by omega) (by omega) hc ?_
    rw [if_neg (by decide)]
    have q1 : (!decide (S l = S l)) = false := by simp
    have q2 : (!decide (S (textL l) = S (textL l))) = false := by simp
    repeat' (first | walk_at "wq" | walk_at "w")
    refine c_atom_text (q := true) Y₅.hs Y₅.hdx (by kernel_rfl) (by kernel_rfl) Y₅.htx e6 (by kernel_rfl) (by omega) (by omega) hc ?_
    rw [if_pos rfl]
    repeat' (first | walk_at "wq" | walk_at "w")
    refine c_bare (by omega) hc ?_
    have q3 : (decide (S (textL l) = S l) != plainL l) = false := by rw [text_eq]; simp
    have tok := text_ok hc
    have tlen : (textL l).length ≤ 27 := by have := text_len l; omega
    repeat' (first | walk_at "wq" | walk_at "w")
    refine we_comp (markP fun c => decide ((c : Int) < 32) || decide ((c : Int) = 127)) id (by kernel_rfl) (by kernel_rfl) ?_
    repeat' walk_at "w"
    refine wlc ((textL l).map fun c => .str (S [c])) (by show some _ = some _; rw [S_cps]) (by simp; omega) (by simp [isSI]) ?_ ?_ ?_
    · intro v hv
      obtain ⟨c, hc', rfl⟩ := List.mem_map.mp hv
      repeat' walk_at "w"
      · rename_i hb; show true = (_ || _); rw [hb]; rfl
      · rename_i hb hb2; show true = (_ || _); rw [hb, hb2]; rfl
      · rename_i hb hb2; show false = (_ || _); rw [hb, hb2]; rfl
    · intro v hv _
      obtain ⟨c, hc', rfl⟩ := List.mem_map.mp hv
      repeat' walk_at "w"
      exact ⟨rfl, rfl⟩
    intro b hb
    rw [marks_filter, no_low tok, List.map_nil, List.map_nil]
    have s1 : sle σ₅ (sset σ₅ b (.list [])) := sle_new hb (sle_refl _)
    repeat' (first | walk_at "wq" | walk_at "w")
    refine ⟨by decide, fun b2 hb2 => ?_⟩
    have s2 : sle σ₅ (sset (sset σ₅ b (.list [])) b2 (.list [])) := sle_new hb2 s1
    have hbb : b2 ≠ b := fun q => by rw [q, sset_hit] at hb2; cases hb2
    repeat' (first | walk_at "wq" | walk_at "w")
    refine wc_neL [] [] (sset_miss hbb.symm sset_hit) sset_hit rfl rfl ?_
    generalize sset (sset σ₅ b (.list [])) b2 (.list []) = σ₆ at s2 ⊢
    repeat' (first | walk_at "wq" | walk_at "w")
    refine we_comp (fun _ => true) ordF (by kernel_rfl) (by kernel_rfl) ?_
    repeat' walk_at "w"
    refine wlc ((textL l).map fun c => .str (S [c])) (by show some _ = some _; rw [S_cps]) (by simp; omega) (by simp [isSI]) ?_ ?_ ?_
    · intro v hv
      exact wts_nil rfl
    · intro v hv _
      obtain ⟨c, hc', rfl⟩ := List.mem_map.mp hv
      repeat' walk_at "w"
      exact ⟨rfl, rfl⟩
    intro cl hcl
    rw [ord_map]
    have s3 : sle σ₅ (sset σ₆ cl (.list ((textL l).map nI))) := sle_new hcl s2
    repeat' (first | (with_reducible refine wca_cls (a := 413) (fi := 291) (by kernel_rfl) ?_) | walk_at "wq" | walk_at "w")
    intro t dt htd ht0 hd0'
    have hct : cl ≠ t := fun q => by rw [← q, sset_hit] at ht0; cases ht0
    have hcd : cl ≠ dt := fun q => by rw [← q, sset_hit] at hd0'; cases hd0'
    have d5 : σ₅ dt = none := by
      cases e : σ₅ dt with
      | none => rfl
      | some o => rw [s3 _ _ e] at hd0'; cases hd0'
    refine c_Tokenizer sset_hit (sset_miss htd.symm sset_hit) htd ⟨rfl, ?_⟩
    have T0 : Tk (sset (sset (sset (sset σ₆ cl (.list ((textL l).map nI))) dt (.flds [])) t (.inst 413 dt)) dt (fldT cl 0)) t dt cl (textL l) 0 :=
      ⟨sset_miss htd sset_hit, sset_hit, sset_miss hcd (sset_miss hct (sset_miss hcd sset_hit)), fun c hc => (tok c hc).2.2, by omega, htd, hcd⟩
    have ht1 : sset (sset σ₆ cl (.list ((textL l).map nI))) dt (.flds []) t = none := sset_miss htd ht0
    have s4 : sle σ₅ (sset (sset (sset (sset σ₆ cl (.list ((textL l).map nI))) dt (.flds [])) t (.inst 413 dt)) dt (fldT cl 0)) := sle_upd d5 (sle_new ht1 (sle_upd d5 s3))
    generalize sset (sset (sset (sset σ₆ cl (.list ((textL l).map nI))) dt (.flds [])) t (.inst 413 dt)) dt (fldT cl 0) = σ₇ at T0 s4 ⊢
    repeat' (first | walk_at "wq" | walk_at "w")
    have fin : ∀ lm' τ, LL lm' p s → sle σ₅ τ → K .next lm' τ := fun lm' τ hL hle => kn _ _ ⟨hL, P₅.le hle, ts₅, Y₅.le hle, by omega⟩
    refine ⟨by decide, fun b3 hb3 => ?_⟩
    have T1 : Tk (sset σ₇ b3 (.list [.str (Str.ofString "[]"), .str (Str.ofString "{}")])) t dt cl (textL l) 0 := ⟨sset_miss (ne_of hb3 T0.ht) T0.ht, sset_miss (ne_of hb3 T0.hdt) T0.hdt, sset_miss (ne_of hb3 T0.hcl) T0.hcl, T0.ok, T0.len, T0.ne⟩
    have s5 : sle σ₅ (sset σ₇ b3 (.list [.str (Str.ofString "[]"), .str (Str.ofString "{}")])) := sle_new hb3 s4
    have hb33 : sset σ₇ b3 (.list [.str (Str.ofString "[]"), .str (Str.ofString "{}")]) b3 = some (.list [.str (Str.ofString "[]"), .str (Str.ofString "{}")]) := sset_hit
    generalize sset σ₇ b3 (.list [.str (Str.ofString "[]"), .str (Str.ofString "{}")]) = σ₈ at T1 s5 hb33 ⊢
    repeat' (first | walk_at "wq" | walk_at "w")
    refine wc_inL ([[91, 93], [123, 125]].map S) hb33 pairS ?_
    rw [mem_S]
    have LL' : LL (upd (upd (upd (upd (upd lm (Str.ofString "step") u) (Str.ofString "name") (.str (S l))) (Str.ofString "number") (nI i)) (Str.ofString "text") (.str (S (textL l)))) (Str.ofString "tokenizer") (.ref t)) p s :=
      ((((L.upd (.inl rfl)).upd (.inr (.inl rfl))).upd (.inr (.inr (.inl rfl)))).upd (.inr (.inr (.inr (.inl rfl))))).upd (.inr (.inr (.inr (.inr rfl))))
    have lt : (upd (upd (upd (upd (upd lm (Str.ofString "step") u) (Str.ofString "name") (.str (S l))) (Str.ofString "number") (nI i)) (Str.ofString "text") (.str (S (textL l)))) (Str.ofString "tokenizer") (.ref t)) (Str.ofString "tokenizer") = some (.ref t) := upd_hit
    have lx : (upd (upd (upd (upd (upd lm (Str.ofString "step") u) (Str.ofString "name") (.str (S l))) (Str.ofString "number") (nI i)) (Str.ofString "text") (.str (S (textL l)))) (Str.ofString "tokenizer") (.ref t)) (Str.ofString "text") = some (.str (S (textL l))) := by walk_at "wv"
    have ln : (upd (upd (upd (upd (upd lm (Str.ofString "step") u) (Str.ofString "name") (.str (S l))) (Str.ofString "number") (nI i)) (Str.ofString "text") (.str (S (textL l)))) (Str.ofString "tokenizer") (.ref t)) (Str.ofString "name") = some (.str (S l)) := by walk_at "wv"
    refine wif (fun hp => ?_) (fun hp => ?_)
    · obtain ⟨et, a, b', rfl, N1, N2⟩ := pair_text hp
      have T1' : Tk σ₈ t dt cl [a, b'] 0 := by rw [et] at T1; exact T1
      refine c_law_pair lt ln (hc a (by simp)) (hc b' (by simp)) N1 N2 T1' s5 d5 fun τ' T' s' => ?_
      exact c_law_eof LL' lt lx (by rw [et]; exact T') s' d5 fun τ h => fin _ τ LL' h
    · refine c_law_one LL' lt ln hl5 hc hp T1 s5 d5 fun τ' T' s' => ?_
      exact c_law_eof LL' lt lx T' s' d5 fun τ h => fin _ τ LL' h
  · exact ⟨by walk_at "wv", by walk_at "wv", by walk_at "wv", by walk_at "wv", by walk_at "wv", by walk_at "wv", by walk_at "wv"⟩
end
end
end
section
open PySem PySem.W PyProof.Rows PySem.Calls
theorem law_runs {w : World} {s₁ : Shared} {a : Addr} {vs : List Value} {ns : List Int} {R : Result → Shared → Prop} (Z : Wf w s₁.heap) (hL : s₁.heap.IsList a vs.toArray) (hI : IntsAre vs ns) (hn : ns.length ≤ 63)
    (h : ∀ s', (∀ b o, s₁.heap.get? b = some o → s'.heap.get? b = some o) → s'.os = s₁.os → s'.gens = s₁.gens → R (.ok (.ret (.bool true))) s') : codeAny (model pw w) callerA (.call (.ref 448) ⟨[.ref a], []⟩) R s₁ := by
  refine (allN_ Z 400).cf ⟨fun _ => none, 9⟩ callerA R s₁ 448 [.blist ns] [.ref a] (fun _ => none) (fun v _ => v = .bool true) ⟨rfl, by decide, by decide⟩ ⟨fun b o e => e, fun b o e => nomatch e⟩ (Nat.le_refl _) (.cons (.blist hL hI) .nil) (c_law (n := 0) (d := 0) hn) ?_
  rintro pv v σ' h' tk rfl hr hx
  cases hr
  exact h _ (fun b o e => (hx 0 []).inv.base b o e) rfl rfl
end
end Mine
open PySem PySem.W PyProof.Rows PySem.Calls Mine
theorem PySem.Challenge.cw_no0173_01_holds : PySem.Challenge.rw_no0173_01.Holds := by
  refine head_ok ?_
  intro w s₀ s₁ mg mb G Y fa o pm cd doc dV kV ho hd hcd hD hmg hg args vals as hpre hlay hrd hwl hlo
  replace hmg : mg (Str.ofString "law") = some (.ref fa) := hmg
  have ea : fa = 448 := by
    have := mg_of (K := KK w.params) Y G.T.g (show nsIn (KK w.params) mainGlobals (Str.ofString "law") = some (some (.ref 448)) by kernel_rfl)
    rw [hmg] at this
    cases this; rfl
  subst ea
  clear hd hcd hD
  have Z : Wf w s₁.heap := ⟨Y, ⟨mg, G.T.g⟩, ⟨mb, G.T.b, G.T.builtins⟩, G.T.nolimit, G.low⟩
  wrow_args hpre hlay hrd hwl hlo
  rename_i hL _ _ _ hI _ hlen _
  refine enter_call (law_runs Z hL hI (by omega) fun s' h1 h2 h3 => ?_)
  refine ⟨.inl ⟨_, .bool true, [], rfl, fun cls => rfl, .bool _, by kernel_rfl, fun _ => ⟨List.nodup_nil, fun _ h => nomatch h⟩⟩, .of_keep h1, h2, .of_eq (h3.trans hg)⟩
