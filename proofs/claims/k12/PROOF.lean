import PyProof.Rows.All
import Wide.All
import OpenK.AllK
import Wide.FinOn
import KE.KStateDown
import Lean
import HandS.ForMost
import HandS.Exc
import HandS.Defaults
import HandS.Head0
import HandS.Head1
import HandS.Head2
import HandS.HeadEnd
import HandS.HeadHook1
import HandS.HeadHook2
import HandS.HeadHook3
import HandS.HeadHook4
import PySem.Challenge.RW_elenchus_k12_whole_formulas_are_read
import HandS.IsInst
import HandS.Steps
import HandS.Deep
import HandS.Rev
import HandS.Evl
import HandS.Walk
section
set_option Elab.async false
set_option linter.all false
set_option maxRecDepth 100000
set_option maxHeartbeats 0
namespace Ele
open PySem PySem.Spec PyProof.Rows L2
def top (i : Nat) : Stmt := PySem.Challenge.pw_elenchus_k12_whole_formulas_are_read.main.body.getD i (.Pass ⟨0, 0, 0, 0⟩)
abbrev s_word_at : Stmt := top 10
abbrev s_token_at : Stmt := top 11
abbrev s_line_end : Stmt := top 12
abbrev s_tokens : Stmt := top 13
abbrev s_m_init : Stmt := inClass (top 20) 0
abbrev s_m_word : Stmt := inClass (top 20) 1
abbrev s_m_kind : Stmt := inClass (top 20) 2
abbrev s_m_skip : Stmt := inClass (top 20) 5
abbrev s_m_opening : Stmt := inClass (top 20) 6
abbrev s_m_closed : Stmt := inClass (top 20) 7
abbrev s_m_next_symbol : Stmt := inClass (top 20) 8
abbrev s_m_end : Stmt := inClass (top 20) 9
abbrev s_m_next_term : Stmt := inClass (top 21) 0
abbrev s_m_next_variable : Stmt := inClass (top 21) 1
abbrev s_m_atom : Stmt := inClass (top 21) 2
abbrev s_m_quantified : Stmt := inClass (top 21) 3
abbrev s_m_unit : Stmt := inClass (top 21) 4
abbrev s_m_conjunction : Stmt := inClass (top 21) 5
abbrev s_m_disjunction : Stmt := inClass (top 21) 6
abbrev s_m_implication : Stmt := inClass (top 21) 7
abbrev s_m_formula : Stmt := inClass (top 21) 8
abbrev s_m_statement : Stmt := inClass (top 21) 9
abbrev s_read_statements : Stmt := top 22
abbrev s_read_formula : Stmt := top 23
abbrev s_L_state : Stmt := top 25
abbrev s_L_draw : Stmt := top 26
abbrev s_L_word : Stmt := top 27
abbrev s_L_is_word : Stmt := top 28
abbrev s_L_gap : Stmt := top 29
abbrev s_L_joined : Stmt := top 30
abbrev s_L_names : Stmt := top 31
abbrev s_L_ftree : Stmt := top 32
abbrev s_L_atom : Stmt := top 33
abbrev s_L_formula : Stmt := top 34
abbrev s_L_term_words : Stmt := top 35
abbrev s_L_level : Stmt := top 36
abbrev s_L_simple_words : Stmt := top 37
abbrev s_L_scope_words : Stmt := top 38
abbrev s_L_words : Stmt := top 39
abbrev s_L_plain_words : Stmt := top 40
abbrev s_law : Stmt := top 41
def d_word_at : He.DefD := ⟨("_word_at", none), "_word_at", "_word_at", defArgs s_word_at, defBody s_word_at, defScope s_word_at, [], []⟩
def d_token_at : He.DefD := ⟨("_token_at", none), "_token_at", "_token_at", defArgs s_token_at, defBody s_token_at, defScope s_token_at, [], []⟩
def d_line_end : He.DefD := ⟨("_line_end", none), "_line_end", "_line_end", defArgs s_line_end, defBody s_line_end, defScope s_line_end, [], []⟩
def d_tokens : He.DefD := ⟨("tokens", none), "tokens", "tokens", defArgs s_tokens, defBody s_tokens, defScope s_tokens, [], []⟩
def d_m_init : He.DefD := ⟨("FormulaReader", some "__init__"), "__init__", "TokenReader.__init__", defArgs s_m_init, defBody s_m_init, defScope s_m_init, [], []⟩
def d_m_word : He.DefD := ⟨("FormulaReader", some "word"), "word", "TokenReader.word", defArgs s_m_word, defBody s_m_word, defScope s_m_word, [], []⟩
def d_m_kind : He.DefD := ⟨("FormulaReader", some "kind"), "kind", "TokenReader.kind", defArgs s_m_kind, defBody s_m_kind, defScope s_m_kind, [], []⟩
def d_m_skip : He.DefD := ⟨("FormulaReader", some "skip"), "skip", "TokenReader.skip", defArgs s_m_skip, defBody s_m_skip, defScope s_m_skip, [], []⟩
def d_m_opening : He.DefD := ⟨("FormulaReader", some "opening"), "opening", "TokenReader.opening", defArgs s_m_opening, defBody s_m_opening, defScope s_m_opening, [], []⟩
def d_m_closed : He.DefD := ⟨("FormulaReader", some "closed"), "closed", "TokenReader.closed", defArgs s_m_closed, defBody s_m_closed, defScope s_m_closed, [], []⟩
def d_m_next_symbol : He.DefD := ⟨("FormulaReader", some "next_symbol"), "next_symbol", "TokenReader.next_symbol", defArgs s_m_next_symbol, defBody s_m_next_symbol, defScope s_m_next_symbol, [], []⟩
def d_m_end : He.DefD := ⟨("FormulaReader", some "end"), "end", "TokenReader.end", defArgs s_m_end, defBody s_m_end, defScope s_m_end, [], []⟩
def d_m_next_term : He.DefD := ⟨("FormulaReader", some "next_term"), "next_term", "FormulaReader.next_term", defArgs s_m_next_term, defBody s_m_next_term, defScope s_m_next_term, [], []⟩
def d_m_next_variable : He.DefD := ⟨("FormulaReader", some "next_variable"), "next_variable", "FormulaReader.next_variable", defArgs s_m_next_variable, defBody s_m_next_variable, defScope s_m_next_variable, [], []⟩
def d_m_atom : He.DefD := ⟨("FormulaReader", some "atom"), "atom", "FormulaReader.atom", defArgs s_m_atom, defBody s_m_atom, defScope s_m_atom, [], []⟩
def d_m_quantified : He.DefD := ⟨("FormulaReader", some "quantified"), "quantified", "FormulaReader.quantified", defArgs s_m_quantified, defBody s_m_quantified, defScope s_m_quantified, [], []⟩
def d_m_unit : He.DefD := ⟨("FormulaReader", some "unit"), "unit", "FormulaReader.unit", defArgs s_m_unit, defBody s_m_unit, defScope s_m_unit, [], []⟩
def d_m_conjunction : He.DefD := ⟨("FormulaReader", some "conjunction"), "conjunction", "FormulaReader.conjunction", defArgs s_m_conjunction, defBody s_m_conjunction, defScope s_m_conjunction, [], []⟩
def d_m_disjunction : He.DefD := ⟨("FormulaReader", some "disjunction"), "disjunction", "FormulaReader.disjunction", defArgs s_m_disjunction, defBody s_m_disjunction, defScope s_m_disjunction, [], []⟩
def d_m_implication : He.DefD := ⟨("FormulaReader", some "implication"), "implication", "FormulaReader.implication", defArgs s_m_implication, defBody s_m_implication, defScope s_m_implication, [], []⟩
def d_m_formula : He.DefD := ⟨("FormulaReader", some "formula"), "formula", "FormulaReader.formula", defArgs s_m_formula, defBody s_m_formula, defScope s_m_formula, [], []⟩
def d_m_statement : He.DefD := ⟨("FormulaReader", some "statement"), "statement", "FormulaReader.statement", defArgs s_m_statement, defBody s_m_statement, defScope s_m_statement, [], []⟩
def d_read_statements : He.DefD := ⟨("read_statements", none), "read_statements", "read_statements", defArgs s_read_statements, defBody s_read_statements, defScope s_read_statements, [], []⟩
def d_read_formula : He.DefD := ⟨("read_formula", none), "read_formula", "read_formula", defArgs s_read_formula, defBody s_read_formula, defScope s_read_formula, [], []⟩
def d_L_state : He.DefD := ⟨("_law_state", none), "_law_state", "_law_state", defArgs s_L_state, defBody s_L_state, defScope s_L_state, [], []⟩
def d_L_draw : He.DefD := ⟨("_law_draw", none), "_law_draw", "_law_draw", defArgs s_L_draw, defBody s_L_draw, defScope s_L_draw, [], []⟩
def d_L_word : He.DefD := ⟨("_law_word", none), "_law_word", "_law_word", defArgs s_L_word, defBody s_L_word, defScope s_L_word, [], []⟩
def d_L_is_word : He.DefD := ⟨("_law_is_word", none), "_law_is_word", "_law_is_word", defArgs s_L_is_word, defBody s_L_is_word, defScope s_L_is_word, [], []⟩
def d_L_gap : He.DefD := ⟨("_law_gap", none), "_law_gap", "_law_gap", defArgs s_L_gap, defBody s_L_gap, defScope s_L_gap, [], []⟩
def d_L_joined : He.DefD := ⟨("_law_joined", none), "_law_joined", "_law_joined", defArgs s_L_joined, defBody s_L_joined, defScope s_L_joined, [], []⟩
def d_L_names : He.DefD := ⟨("_law_names", none), "_law_names", "_law_names", defArgs s_L_names, defBody s_L_names, defScope s_L_names, [], []⟩
def d_L_ftree : He.DefD := ⟨("_law_ftree", none), "_law_ftree", "_law_ftree", defArgs s_L_ftree, defBody s_L_ftree, defScope s_L_ftree, [], []⟩
def d_L_atom : He.DefD := ⟨("_law_atom", none), "_law_atom", "_law_atom", defArgs s_L_atom, defBody s_L_atom, defScope s_L_atom, [], []⟩
def d_L_formula : He.DefD := ⟨("_law_formula", none), "_law_formula", "_law_formula", defArgs s_L_formula, defBody s_L_formula, defScope s_L_formula, [], []⟩
def d_L_term_words : He.DefD := ⟨("_law_term_words", none), "_law_term_words", "_law_term_words", defArgs s_L_term_words, defBody s_L_term_words, defScope s_L_term_words, [], []⟩
def d_L_level : He.DefD := ⟨("_law_level", none), "_law_level", "_law_level", defArgs s_L_level, defBody s_L_level, defScope s_L_level, [], []⟩
def d_L_simple_words : He.DefD := ⟨("_law_simple_words", none), "_law_simple_words", "_law_simple_words", defArgs s_L_simple_words, defBody s_L_simple_words, defScope s_L_simple_words, [], []⟩
def d_L_scope_words : He.DefD := ⟨("_law_scope_words", none), "_law_scope_words", "_law_scope_words", defArgs s_L_scope_words, defBody s_L_scope_words, defScope s_L_scope_words, [], []⟩
def d_L_words : He.DefD := ⟨("_law_words", none), "_law_words", "_law_words", defArgs s_L_words, defBody s_L_words, defScope s_L_words, [], []⟩
def d_L_plain_words : He.DefD := ⟨("_law_plain_words", none), "_law_plain_words", "_law_plain_words", defArgs s_L_plain_words, defBody s_L_plain_words, defScope s_L_plain_words, [], []⟩
def d_law : He.DefD := ⟨("law", none), "law", "law", defArgs s_law, defBody s_law, defScope s_law, [], []⟩
def fn : List He.DefD := [d_word_at, d_token_at, d_line_end, d_tokens, d_m_init, d_m_word, d_m_kind, d_m_skip, d_m_opening, d_m_closed, d_m_next_symbol, d_m_end, d_m_next_term, d_m_next_variable, d_m_atom, d_m_quantified, d_m_unit, d_m_conjunction, d_m_disjunction, d_m_implication, d_m_formula, d_m_statement, d_read_statements, d_read_formula, d_L_state, d_L_draw, d_L_word, d_L_is_word, d_L_gap, d_L_joined, d_L_names, d_L_ftree, d_L_atom, d_L_formula, d_L_term_words, d_L_level, d_L_simple_words, d_L_scope_words, d_L_words, d_L_plain_words, d_law]
def gloN1 : List Str := ["_word_at", "_token_at", "_line_end", "tokens", "read_statements", "read_formula", "_law_state", "_law_draw", "_law_word", "_law_is_word", "_law_gap", "_law_joined", "_law_names"]
def gloN2 : List Str := ["_law_ftree", "_law_atom", "_law_formula", "_law_term_words", "_law_level", "_law_simple_words", "_law_scope_words", "_law_words", "_law_plain_words", "law", "FormulaReader", "SIGNS", "RESERVED", "TRUE"]
def gloN : List Str := gloN1 ++ gloN2
def freeN1 : List Str := ["ValueError", "int", "isinstance", "len", "list"]
def freeN2 : List Str := ["max", "range", "repr", "reversed", "str", "tuple"]
def freeN : List Str := freeN1 ++ freeN2
def methN1 : List Str := ["word", "kind", "skip", "opening", "closed", "next_symbol", "end", "next_term"]
def methN2 : List Str := ["next_variable", "atom", "quantified", "unit", "conjunction", "disjunction", "implication", "formula", "statement"]
def methN : List Str := methN1 ++ methN2
def noatN1 : List Str := ["row", "at"]
def noatN2 : List Str := ["open_count", "scope"]
def noatN : List Str := noatN1 ++ noatN2
def faR : List He.Fa := [.int "MAX_TEXT" 20000, .int "MAX_NAME" 20, .int "MAX_OPEN" 40, .int "MAX_HEIGHT" 40, .int "MAX_ARGUMENTS" 8, .str "SMALL" "abcdefghijklmnopqrstuvwxyz", .str "CAPITALS" "ABCDEFGHIJKLMNOPQRSTUVWXYZ", .str "WORD_CHARACTERS" "abcdefghijklmnopqrstuvwxyzABCDEFGHIJKLMNOPQRSTUVWXYZ0123456789_", .cls "FormulaReader", .mkr "FormulaReader", .keep "FormulaReader"]
def fa : List He.Fa := faR ++ (gloN.map He.Fa.glo ++ (freeN.map He.Fa.free ++ (methN.map (He.Fa.meth "FormulaReader") ++ noatN.map (He.Fa.noat "FormulaReader"))))
def ex (K : PySem.W.Frag) : Bool := He.tupB K "SIGNS" [.str "<->", .str "->", .str "!=", .str "(", .str ")", .str ",", .str ":", .str ".", .str "~", .str "&", .str "|", .str "="] && (He.tupB K "RESERVED" [.str "axiom", .str "goal", .str "all", .str "some", .str "true", .str "false"] && He.tupB K "TRUE" [.str "true"])
abbrev R : PySem.W.OpenRow := PySem.W.OpenLaw.row PySem.Challenge.rw_elenchus_k12_whole_formulas_are_read
abbrev hk : PySem.W.Hook := He.hookX 6 fa fn [] [] ex
def ob (s : PySem.W.SharedT) : He.AlX := He.obsX 6 fa fn [] [] ex (HandSHeadRun.getT s)
theorem ob_eq (s : PySem.W.SharedT) : ob s = hk.obs s.abs := He.obsX_eq (HandSHeadRun.getT_eq s)
abbrev qv : Program := PySem.W.view R.prog [41]
def loose1 : List Str := ["ElenchusError", "TextError", "MAX_TEXT", "MAX_NAME", "SMALL", "CAPITALS", "WORD_CHARACTERS", "SIGNS", "_word_at", "_token_at", "_line_end", "tokens", "TRUE", "RESERVED", "MAX_OPEN", "MAX_HEIGHT", "MAX_ARGUMENTS", "TokenReader", "FormulaReader"]
def loose2 : List Str := ["read_statements", "read_formula", "_law_state", "_law_draw", "_law_word", "_law_is_word", "_law_gap", "_law_joined", "_law_names", "_law_ftree", "_law_atom", "_law_formula", "_law_term_words", "_law_level", "_law_simple_words", "_law_scope_words", "_law_words", "_law_plain_words"]
def loose : List Str := loose1 ++ loose2
theorem run (w : World) : HandSHeadRun.RunEq R qv hk ob 4000 loose w := by
  intro os
  kernel_rfl
end Ele
end
section
set_option Elab.async false
set_option linter.all false
set_option maxRecDepth 100000
namespace Ele
open PySem (Str PyData)
/-! ### words -/
abbrev tlw (w : Str) : List Nat := w.cps.toList
def small (c : Nat) : Bool := decide (97 ≤ c) && decide (c ≤ 122)
def capital (c : Nat) : Bool := decide (65 ≤ c) && decide (c ≤ 90)
def wordc (c : Nat) : Bool := small c || capital c || (decide (48 ≤ c) && decide (c ≤ 57)) || decide (c = 95)
def isName (w : Str) : Bool := match tlw w with
  | c :: _ => small c
  | [] => false
def isVar (w : Str) : Bool := match tlw w with
  | c :: _ => capital c
  | [] => false
def kindOf (w : Str) : Str := if isName w then "name" else if isVar w then "variable" else if w = "" then "end" else "sign"
def reserved : List Str := ["axiom", "goal", "all", "some", "true", "false"]
def signs : List Str := ["<->", "->", "!=", "(", ")", ",", ":", ".", "~", "&", "|", "="]
/-- a symbol's name -/
def Nm (f : Str) : Prop := isName f = true ∧ f ∉ reserved ∧ f.length ≤ 20 ∧ ∀ c ∈ tlw f, wordc c = true
def VarOk (x : Str) : Prop := x ∈ (["X", "Y", "Zed", "A_1"] : List Str)

/-! ### terms, formulas -/
inductive Tm where
  | var (x : Str)
  | app (f : Str) (args : List Tm)
mutual
def Tm.d : Tm → PyData
  | .var x => .str x
  | .app f args => .tuple (.str f :: Tm.ds args)
def Tm.ds : List Tm → List PyData
  | [] => []
  | a :: r => a.d :: Tm.ds r
end
mutual
def Tm.w : Tm → List Str
  | .var x => [x]
  | .app f [] => [f]
  | .app f (a :: r) => f :: "(" :: (a.w ++ (Tm.ws r ++ [(")" : Str)]))
def Tm.ws : List Tm → List Str
  | [] => []
  | a :: r => "," :: (a.w ++ Tm.ws r)
end
inductive TOk (sc : List Str) : Nat → Tm → Prop
  | var {n x} : x ∈ sc → TOk sc n (.var x)
  | cst {n f} : Nm f → TOk sc n (.app f [])
  | un {n f a} : Nm f → TOk sc n a → TOk sc (n + 1) (.app f [a])
  | mu {n f args} : Nm f → 2 ≤ args.length → args.length ≤ 8 → (∀ a ∈ args, TOk sc 0 a) → TOk sc (n + 1) (.app f args)
inductive Bk where
  | iff | imp | or | and
  deriving DecidableEq
def Bk.lv : Bk → Nat
  | .iff => 0
  | .imp => 1
  | .or => 2
  | .and => 3
def Bk.left : Bk → Nat
  | .iff => 1
  | .imp => 2
  | .or => 2
  | .and => 3
def Bk.right : Bk → Nat
  | .iff => 1
  | .imp => 1
  | .or => 3
  | .and => 4
def Bk.op : Bk → Str
  | .iff => "<->"
  | .imp => "->"
  | .or => "|"
  | .and => "&"
def Bk.nm : Bk → Str
  | .iff => "iff"
  | .imp => "implies"
  | .or => "or"
  | .and => "and"
def qw (q : Bool) : Str := if q then "all" else "some"
def tw (b : Bool) : Str := if b then "true" else "false"
inductive Fm where
  | tt (b : Bool)
  | pr (s : Tm)
  | eq (s t : Tm)
  | neg (f : Fm)
  | bin (k : Bk) (f g : Fm)
  | qu (q : Bool) (x : Str) (f : Fm)
def trueD : PyData := .tuple [.str "true"]
def Fm.d : Fm → PyData
  | .tt b => .tuple [.str (tw b)]
  | .pr s => .tuple [.str "equal", s.d, trueD]
  | .eq s t => .tuple [.str "equal", s.d, t.d]
  | .neg f => .tuple [.str "not", f.d]
  | .bin k f g => .tuple [.str k.nm, f.d, g.d]
  | .qu q x f => .tuple [.str (qw q), .str x, f.d]
def Fm.h : Fm → Nat
  | .tt _ => 1
  | .pr _ => 1
  | .eq _ _ => 1
  | .neg f => f.h + 1
  | .bin _ f g => 1 + max f.h g.h
  | .qu _ _ f => f.h + 1
def Fm.own : Fm → Nat
  | .bin k _ _ => k.lv
  | _ => 4
def Fm.isQ : Fm → Bool
  | .qu _ _ _ => true
  | _ => false
inductive FOk : List Str → Nat → Fm → Prop
  | tt {sc n b} : FOk sc n (.tt b)
  | pr0 {sc n f} : Nm f → FOk sc n (.pr (.app f []))
  | pr1 {sc n f a} : Nm f → TOk sc 1 a → FOk sc n (.pr (.app f [a]))
  | pr2 {sc n f a b} : Nm f → TOk sc 1 a → TOk sc 1 b → FOk sc n (.pr (.app f [a, b]))
  | eq {sc n s t} : TOk sc 2 s → TOk sc 1 t → FOk sc n (.eq s t)
  | neg {sc n f} : FOk sc n f → FOk sc (n + 1) (.neg f)
  | bin {sc n k f g} : FOk sc n f → FOk sc n g → FOk sc (n + 1) (.bin k f g)
  | qu {sc n q x f} : VarOk x → FOk (sc ++ [x]) n f → FOk sc (n + 1) (.qu q x f)

/-! ### what the law may write -/
inductive RK where
  | w (l : Nat) (last : Bool)
  | p (last : Bool)
  | q (k : Bool)
inductive Rn : RK → Fm → List Str → Prop
  | par {l last f v} : Rn (.p true) f v → Rn (.w l last) f ("(" :: (v ++ [(")" : Str)]))
  | bare {l last f v} : l ≤ f.own → (f.isQ = true → last = true) → Rn (.p last) f v → Rn (.w l last) f v
  | tt {last b} : Rn (.p last) (.tt b) [tw b]
  | pr {last s} : Rn (.p last) (.pr s) s.w
  | eq {last s t} : Rn (.p last) (.eq s t) (s.w ++ ("=" : Str) :: t.w)
  | ne {last s t} : Rn (.p last) (.neg (.eq s t)) (s.w ++ ("!=" : Str) :: t.w)
  | neg {last f v} : Rn (.w 4 false) f v → Rn (.p last) (.neg f) ("~" :: v)
  | bin {last k f g v u} : Rn (.w k.left false) f v → Rn (.w k.right last) g u → Rn (.p last) (.bin k f g) (v ++ k.op :: u)
  | qu {last q x f v} : Rn (.q q) f v → Rn (.p last) (.qu q x f) (qw q :: x :: v)
  | stop {q f v} : Rn (.w 0 true) f v → Rn (.q q) f (":" :: v)
  | more {q x f v} : Rn (.q q) f v → Rn (.q q) (.qu q x f) ("," :: x :: v)

/-! ### what the reader does -/
mutual
inductive PTm (sc : List Str) : Nat → Nat → List Str → PyData → List Str → Prop
  | var {n o x ts} : isVar x = true → x ∈ sc → PTm sc (n + 1) o (x :: ts) (.str x) ts
  | cst {n o f w ts} : isName f = true → f ∉ reserved → w ≠ ("(" : Str) → PTm sc (n + 1) o (f :: w :: ts) (.tuple [.str f]) (w :: ts)
  | app {n o f w ts d ts1 r c ts2} : isName f = true → f ∉ reserved → w = ("(" : Str) → o < 40 → PTm sc n (o + 1) ts d ts1 → PAr sc n (o + 1) ts1 r (c :: ts2) → c = (")" : Str) → r.length ≤ 7 →
      PTm sc (n + 1) o (f :: w :: ts) (.tuple (.str f :: d :: r)) ts2
inductive PAr (sc : List Str) : Nat → Nat → List Str → List PyData → List Str → Prop
  | done {n o w ts} : w ≠ ("," : Str) → PAr sc n o (w :: ts) [] (w :: ts)
  | more {n o w ts d ts1 r ts2} : w = ("," : Str) → PTm sc n o ts d ts1 → PAr sc n o ts1 r ts2 → PAr sc n o (w :: ts) (d :: r) ts2
end
inductive Tg where
  | atom | quant | unit | conj | disj | impl | form
  | conjL (h : Nat) (f : PyData) | disjL (h : Nat) (f : PyData)
/-- the variables that a quantifier introduces -/
inductive QV : Nat → List Str → List Str → List Str → Prop
  | one {o x w ts} : isVar x = true → o < 40 → w ≠ ("," : Str) → QV o (x :: w :: ts) [x] (w :: ts)
  | more {o x c ts xs ts'} : isVar x = true → o < 40 → c = ("," : Str) → QV (o + 1) ts xs ts' → QV o (x :: c :: ts) (x :: xs) ts'
def eqD (s t : PyData) : PyData := .tuple [.str "equal", s, t]
def notD (f : PyData) : PyData := .tuple [.str "not", f]
def binD (k : Str) (f g : PyData) : PyData := .tuple [.str k, f, g]
def quD (q : Str) (xs : List Str) (f : PyData) : PyData := xs.foldr (fun x f => .tuple [.str q, .str x, f]) f
def enders : List Str := [")", ".", ""]
inductive PF : Nat → Tg → List Str → Nat → List Str → Nat → PyData → List Str → Prop
  | eq {n sc o ts s w ts1 t ts2} : PTm sc n o ts s (w :: ts1) → w = ("=" : Str) → PTm sc n o ts1 t ts2 → PF (n + 1) .atom sc o ts 1 (eqD s t) ts2
  | ne {n sc o ts s w ts1 t ts2} : PTm sc n o ts s (w :: ts1) → w = ("!=" : Str) → PTm sc n o ts1 t ts2 → PF (n + 1) .atom sc o ts 2 (notD (eqD s t)) ts2
  | al {n sc o f ts s w ts1} : isVar f = false → PTm sc n o (f :: ts) s (w :: ts1) → w ≠ ("=" : Str) → w ≠ ("!=" : Str) → PF (n + 1) .atom sc o (f :: ts) 1 (eqD s trueD) (w :: ts1)
  | qu {n sc o q ts xs c ts1 h f w ts2} : sc.length ≤ 1000 → QV o ts xs (c :: ts1) → c = (":" : Str) → PF n .form (sc ++ xs) (o + xs.length) ts1 h f (w :: ts2) → w ∈ enders → PF (n + 1) .quant sc o (q :: ts) (h + xs.length) (quD q xs f) (w :: ts2)
  | neg {n sc o w ts h f ts1} : w = ("~" : Str) → o < 40 → PF n .unit sc (o + 1) ts h f ts1 → PF (n + 1) .unit sc o (w :: ts) (h + 1) (notD f) ts1
  | par {n sc o w ts h f c ts1} : w = ("(" : Str) → o < 40 → PF n .form sc (o + 1) ts h f (c :: ts1) → c = (")" : Str) → PF (n + 1) .unit sc o (w :: ts) h f ts1
  | qun {n sc o q ts h f ts1} : q = ("all" : Str) ∨ q = ("some" : Str) → PF n .quant sc o (q :: ts) h f ts1 → PF (n + 1) .unit sc o (q :: ts) h f ts1
  | tt {n sc o w ts} : w = ("true" : Str) ∨ w = ("false" : Str) → PF (n + 1) .unit sc o (w :: ts) 1 (.tuple [.str w]) ts
  | atm {n sc o w ts h f ts1} : w ∉ (["~", "(", "all", "some", "true", "false"] : List Str) → PF n .atom sc o (w :: ts) h f ts1 → PF (n + 1) .unit sc o (w :: ts) h f ts1
  | con {n sc o ts h f ts1 h2 f2 ts2} : PF n .unit sc o ts h f ts1 → PF n (.conjL h f) sc o ts1 h2 f2 ts2 → PF (n + 1) .conj sc o ts h2 f2 ts2
  | cl0 {n sc o w ts h f} : w ≠ ("&" : Str) → PF n (.conjL h f) sc o (w :: ts) h f (w :: ts)
  | cl1 {n sc o w ts h f h1 f1 ts1 h2 f2 ts2} : w = ("&" : Str) → PF n .unit sc o ts h1 f1 ts1 → PF n (.conjL (1 + max h h1) (binD "and" f f1)) sc o ts1 h2 f2 ts2 → PF n (.conjL h f) sc o (w :: ts) h2 f2 ts2
  | dis {n sc o ts h f ts1 h2 f2 ts2} : PF n .conj sc o ts h f ts1 → PF n (.disjL h f) sc o ts1 h2 f2 ts2 → PF (n + 1) .disj sc o ts h2 f2 ts2
  | dl0 {n sc o w ts h f} : w ≠ ("|" : Str) → PF n (.disjL h f) sc o (w :: ts) h f (w :: ts)
  | dl1 {n sc o w ts h f h1 f1 ts1 h2 f2 ts2} : w = ("|" : Str) → PF n .conj sc o ts h1 f1 ts1 → PF n (.disjL (1 + max h h1) (binD "or" f f1)) sc o ts1 h2 f2 ts2 → PF n (.disjL h f) sc o (w :: ts) h2 f2 ts2
  | im0 {n sc o ts h f w ts1} : PF n .disj sc o ts h f (w :: ts1) → w ≠ ("->" : Str) → PF (n + 1) .impl sc o ts h f (w :: ts1)
  | im1 {n sc o ts h f w ts1 h1 f1 ts2} : PF n .disj sc o ts h f (w :: ts1) → w = ("->" : Str) → o < 40 → PF n .impl sc (o + 1) ts1 h1 f1 ts2 → PF (n + 1) .impl sc o ts (1 + max h h1) (binD "implies" f f1) ts2
  | fo0 {n sc o ts h f w ts1} : PF n .impl sc o ts h f (w :: ts1) → w ≠ ("<->" : Str) → PF (n + 1) .form sc o ts h f (w :: ts1)
  | fo1 {n sc o ts h f w ts1 h1 f1 ts2} : PF n .impl sc o ts h f (w :: ts1) → w = ("<->" : Str) → PF n .impl sc o ts1 h1 f1 ts2 → PF (n + 1) .form sc o ts (1 + max h h1) (binD "iff" f f1) ts2
end Ele
end
section
set_option Elab.async false
set_option linter.all false
set_option maxRecDepth 100000
set_option maxHeartbeats 1000000
namespace Ele
open PySem (Str PyData)
theorem isVar_of {x : Str} (h : VarOk x) : isVar x = true := by
  have a1 : isVar ("X" : Str) = true := by decide +kernel
  have a2 : isVar ("Y" : Str) = true := by decide +kernel
  have a3 : isVar ("Zed" : Str) = true := by decide +kernel
  have a4 : isVar ("A_1" : Str) = true := by decide +kernel
  simp only [VarOk, List.mem_cons, List.not_mem_nil, or_false] at h
  rcases h with rfl | rfl | rfl | rfl <;> assumption
theorem par_reads {sc : List Str} {m o : Nat} {w : Str} {rest : List Str} (h1 : w ≠ ("," : Str)) (h2 : w ≠ ("(" : Str)) :
    ∀ r : List Tm, (∀ a ∈ r, ∀ (w : Str) rest, w ≠ ("(" : Str) → PTm sc m o (a.w ++ w :: rest) a.d (w :: rest)) → PAr sc m o (Tm.ws r ++ w :: rest) (Tm.ds r) (w :: rest)
  | [], _ => .done h1
  | a :: r, h => by
    have ih := par_reads (rest := rest) h1 h2 r fun b hb => h b (List.mem_cons_of_mem _ hb)
    have e : Tm.ws (a :: r) ++ w :: rest = ("," : Str) :: (a.w ++ (Tm.ws r ++ w :: rest)) := by simp [Tm.ws]
    rw [e, Tm.ds]
    cases r with
    | nil => exact .more rfl (h a List.mem_cons_self w rest h2) ih
    | cons b r =>
      have e2 : Tm.ws (b :: r) ++ w :: rest = ("," : Str) :: (b.w ++ (Tm.ws r ++ w :: rest)) := by simp [Tm.ws]
      rw [e2] at ih ⊢
      exact .more rfl (h a List.mem_cons_self _ _ (by decide +kernel)) ih
theorem ds_len : ∀ r : List Tm, (Tm.ds r).length = r.length
  | [] => rfl
  | _ :: r => by rw [Tm.ds, List.length_cons, List.length_cons, ds_len r]
theorem term_reads {sc : List Str} (hs : ∀ x ∈ sc, VarOk x) {n : Nat} {t : Tm} (h : TOk sc n t) :
    ∀ m o (w : Str) rest, n + 1 ≤ m → o + n ≤ 40 → w ≠ ("(" : Str) → PTm sc m o (t.w ++ w :: rest) t.d (w :: rest) := by
  have app : ∀ {f : Str} {a : Tm} {r : List Tm} {m o : Nat} {w : Str} {rest : List Str}, Nm f → o < 40 → r.length ≤ 7 → (∀ b ∈ a :: r, ∀ (w : Str) rest, w ≠ ("(" : Str) → PTm sc m (o + 1) (b.w ++ w :: rest) b.d (w :: rest)) →
      PTm sc (m + 1) o ((Tm.app f (a :: r)).w ++ w :: rest) (Tm.app f (a :: r)).d (w :: rest) := by
    intro f a r m o w rest hf ho hr ih
    have e : (Tm.app f (a :: r)).w ++ w :: rest = f :: ("(" : Str) :: (a.w ++ (Tm.ws r ++ (")" : Str) :: w :: rest)) := by simp [Tm.w]
    have hr2 := par_reads (sc := sc) (m := m) (o := o + 1) (w := ")") (rest := w :: rest) (by decide +kernel) (by decide +kernel) r fun b hb => ih b (List.mem_cons_of_mem _ hb)
    rw [e, Tm.d, Tm.ds]
    refine .app hf.1 hf.2.1 rfl ho ?_ hr2 rfl (by rw [ds_len]; exact hr)
    cases r with
    | nil => exact ih a List.mem_cons_self _ _ (by decide +kernel)
    | cons b r =>
      have e2 : Tm.ws (b :: r) ++ (")" : Str) :: w :: rest = ("," : Str) :: (b.w ++ (Tm.ws r ++ (")" : Str) :: w :: rest)) := by simp [Tm.ws]
      rw [e2]
      exact ih a List.mem_cons_self _ _ (by decide +kernel)
  induction h with
  | var hx =>
    intro m o w rest hm ho hw
    obtain ⟨m, rfl⟩ : ∃ k, m = k + 1 := ⟨m - 1, by omega⟩
    exact .var (isVar_of (hs _ hx)) hx
  | cst hf =>
    intro m o w rest hm ho hw
    obtain ⟨m, rfl⟩ : ∃ k, m = k + 1 := ⟨m - 1, by omega⟩
    exact .cst hf.1 hf.2.1 hw
  | un hf ha ih =>
    intro m o w rest hm ho hw
    obtain ⟨m, rfl⟩ : ∃ k, m = k + 1 := ⟨m - 1, by omega⟩
    refine app hf (by omega) (by show 0 ≤ 7; decide) fun b hb w' r' hw' => ?_
    rw [List.mem_singleton] at hb
    subst hb
    exact ih m (o + 1) w' r' (by omega) (by omega) hw'
  | @mu n f args hf h2 h8 ha ih =>
    intro m o w rest hm ho hw
    obtain ⟨m, rfl⟩ : ∃ k, m = k + 1 := ⟨m - 1, by omega⟩
    cases args with
    | nil => exact absurd h2 (by decide)
    | cons a r =>
      rw [List.length_cons] at h8
      exact app hf (by omega) (by omega) fun b hb w' r' hw' => ih b hb m (o + 1) w' r' (by omega) (by omega) hw'
/-! ### more fuel -/
mutual
theorem PTm.more_ {sc : List Str} : ∀ {n o ts d ts'}, PTm sc n o ts d ts' → ∀ m, n ≤ m → PTm sc m o ts d ts'
  | _, _, _, _, _, .var a b, m, hm => by
    obtain ⟨m, rfl⟩ : ∃ k, m = k + 1 := ⟨m - 1, by omega⟩
    exact .var a b
  | _, _, _, _, _, .cst a b c, m, hm => by
    obtain ⟨m, rfl⟩ : ∃ k, m = k + 1 := ⟨m - 1, by omega⟩
    exact .cst a b c
  | _, _, _, _, _, .app a b c d e f g i, m, hm => by
    obtain ⟨m, rfl⟩ : ∃ k, m = k + 1 := ⟨m - 1, by omega⟩
    exact .app a b c d (e.more_ m (by omega)) (f.more_ m (by omega)) g i
theorem PAr.more_ {sc : List Str} : ∀ {n o ts d ts'}, PAr sc n o ts d ts' → ∀ m, n ≤ m → PAr sc m o ts d ts'
  | _, _, _, _, _, .done a, m, hm => .done a
  | _, _, _, _, _, .more a b c, m, hm => .more a (b.more_ m hm) (c.more_ m hm)
end
theorem PF.more_ {n tg sc o ts h f ts'} (p : PF n tg sc o ts h f ts') : ∀ m, n ≤ m → PF m tg sc o ts h f ts' := by
  induction p with
  | cl0 a => exact fun m _ => .cl0 a
  | dl0 a => exact fun m _ => .dl0 a
  | cl1 a _ _ i j => exact fun m hm => .cl1 a (i m hm) (j m hm)
  | dl1 a _ _ i j => exact fun m hm => .dl1 a (i m hm) (j m hm)
  | eq a b c =>
    intro m hm
    obtain ⟨m, rfl⟩ : ∃ k, m = k + 1 := ⟨m - 1, by omega⟩
    exact .eq (a.more_ m (by omega)) b (c.more_ m (by omega))
  | ne a b c =>
    intro m hm
    obtain ⟨m, rfl⟩ : ∃ k, m = k + 1 := ⟨m - 1, by omega⟩
    exact .ne (a.more_ m (by omega)) b (c.more_ m (by omega))
  | al a b c d =>
    intro m hm
    obtain ⟨m, rfl⟩ : ∃ k, m = k + 1 := ⟨m - 1, by omega⟩
    exact .al a (b.more_ m (by omega)) c d
  | qu z a b c d i =>
    intro m hm
    obtain ⟨m, rfl⟩ : ∃ k, m = k + 1 := ⟨m - 1, by omega⟩
    exact .qu z a b (i m (by omega)) d
  | neg a b c i =>
    intro m hm
    obtain ⟨m, rfl⟩ : ∃ k, m = k + 1 := ⟨m - 1, by omega⟩
    exact .neg a b (i m (by omega))
  | par a b c d i =>
    intro m hm
    obtain ⟨m, rfl⟩ : ∃ k, m = k + 1 := ⟨m - 1, by omega⟩
    exact .par a b (i m (by omega)) d
  | qun a b i =>
    intro m hm
    obtain ⟨m, rfl⟩ : ∃ k, m = k + 1 := ⟨m - 1, by omega⟩
    exact .qun a (i m (by omega))
  | tt a =>
    intro m hm
    obtain ⟨m, rfl⟩ : ∃ k, m = k + 1 := ⟨m - 1, by omega⟩
    exact .tt a
  | atm a b i =>
    intro m hm
    obtain ⟨m, rfl⟩ : ∃ k, m = k + 1 := ⟨m - 1, by omega⟩
    exact .atm a (i m (by omega))
  | con a b i j =>
    intro m hm
    obtain ⟨m, rfl⟩ : ∃ k, m = k + 1 := ⟨m - 1, by omega⟩
    exact .con (i m (by omega)) (j m (by omega))
  | dis a b i j =>
    intro m hm
    obtain ⟨m, rfl⟩ : ∃ k, m = k + 1 := ⟨m - 1, by omega⟩
    exact .dis (i m (by omega)) (j m (by omega))
  | im0 a b i =>
    intro m hm
    obtain ⟨m, rfl⟩ : ∃ k, m = k + 1 := ⟨m - 1, by omega⟩
    exact .im0 (i m (by omega)) b
  | im1 a b c d i j =>
    intro m hm
    obtain ⟨m, rfl⟩ : ∃ k, m = k + 1 := ⟨m - 1, by omega⟩
    exact .im1 (i m (by omega)) b c (j m (by omega))
  | fo0 a b i =>
    intro m hm
    obtain ⟨m, rfl⟩ : ∃ k, m = k + 1 := ⟨m - 1, by omega⟩
    exact .fo0 (i m (by omega)) b
  | fo1 a b c i j =>
    intro m hm
    obtain ⟨m, rfl⟩ : ∃ k, m = k + 1 := ⟨m - 1, by omega⟩
    exact .fo1 (i m (by omega)) b (j m (by omega))
/-! ### what may follow -/
def lser : Nat → List Str
  | 0 => []
  | 1 => ["<->"]
  | 2 => ["->", "<->"]
  | 3 => ["|", "->", "<->"]
  | _ => ["&", "|", "->", "<->"]
def Fol (l : Nat) (last : Bool) (w : Str) : Prop := w ∈ enders ∨ (last = false ∧ w ∈ lser l)
theorem lser_sub {w : Str} : ∀ {l : Nat}, l ≤ 3 → w ∈ lser l → w ∈ lser (l + 1)
  | 0, _, h => by cases h
  | 1, _, h => List.mem_cons_of_mem _ h
  | 2, _, h => List.mem_cons_of_mem _ h
  | 3, _, h => List.mem_cons_of_mem _ h
  | n + 4, hl, _ => absurd hl (by omega)
theorem Fol.up {l : Nat} {last : Bool} {w : Str} (hl : l ≤ 3) (h : Fol l last w) : Fol (l + 1) last w := by
  rcases h with h | ⟨h1, h2⟩
  · exact .inl h
  · exact .inr ⟨h1, lser_sub hl h2⟩
theorem Fol.not {l : Nat} {last : Bool} {w x : Str} (h : Fol l last w) (h1 : x ∉ enders) (h2 : x ∉ lser l) : w ≠ x := by
  rintro rfl
  rcases h with h | ⟨_, h⟩
  · exact h1 h
  · exact h2 h
def At (l : Nat) (last : Bool) (sc : List Str) (m o : Nat) (f : Fm) (v : List Str) : Prop := match l with
  | 0 => ∀ w r, Fol 0 last w → PF m .form sc o (v ++ w :: r) f.h f.d (w :: r)
  | 1 => ∀ w r, Fol 1 last w → PF m .impl sc o (v ++ w :: r) f.h f.d (w :: r)
  | 2 => ∀ w r h g r', Fol 3 last w → PF m (.disjL f.h f.d) sc o (w :: r) h g r' → PF (m + 1) .disj sc o (v ++ w :: r) h g r'
  | 3 => ∀ w r h g r', Fol 4 last w → PF m (.conjL f.h f.d) sc o (w :: r) h g r' → PF (m + 1) .conj sc o (v ++ w :: r) h g r'
  | _ => ∀ w r, Fol 4 last w → PF m .unit sc o (v ++ w :: r) f.h f.d (w :: r)
section
variable {last : Bool} {sc : List Str} {m o : Nat} {f : Fm} {v : List Str}
theorem at3 (h : At 4 last sc m o f v) : At 3 last sc m o f v := fun w r _ _ _ hw q => .con (h w r hw) q
theorem at2 (h : At 3 last sc m o f v) : At 2 last sc (m + 1) o f v := fun w r _ _ _ hw q =>
  .dis (h w r _ _ _ (hw.up (by decide)) (.cl0 (hw.not (by decide +kernel) (by decide +kernel)))) q
theorem disj_of (h : At 2 last sc m o f v) {w : Str} {r : List Str} (hw : Fol 3 last w) (hn : w ≠ ("|" : Str)) : PF (m + 1) .disj sc o (v ++ w :: r) f.h f.d (w :: r) := h w r _ _ _ hw (.dl0 hn)
theorem at1 (h : At 2 last sc m o f v) : At 1 last sc (m + 2) o f v := fun w r hw =>
  .im0 (disj_of h ((hw.up (by decide)).up (by decide)) (hw.not (by decide +kernel) (by decide +kernel))) (hw.not (by decide +kernel) (by decide +kernel))
theorem at0 (h : At 1 last sc m o f v) : At 0 last sc (m + 1) o f v := fun w r hw =>
  .fo0 (h w r (hw.up (by decide))) (hw.not (by decide +kernel) (by decide +kernel))
end
/-- down from the own level -/
theorem at_all {last : Bool} {sc : List Str} {o M : Nat} {f : Fm} {v : List Str} : ∀ (k : Nat), k ≤ 4 → (∀ m, M ≤ m → At k last sc m o f v) → ∀ l, l ≤ k → ∀ m, M + 4 ≤ m → At l last sc m o f v := by
  have d3 : (∀ m, M ≤ m → At 4 last sc m o f v) → ∀ m, M ≤ m → At 3 last sc m o f v := fun h m hm => at3 (h m hm)
  have d2 : (∀ m, M ≤ m → At 3 last sc m o f v) → ∀ m, M + 1 ≤ m → At 2 last sc m o f v := fun h m hm => by
    obtain ⟨m, rfl⟩ : ∃ k, m = k + 1 := ⟨m - 1, by omega⟩
    exact at2 (h m (by omega))
  have d1 : ∀ K, (∀ m, K ≤ m → At 2 last sc m o f v) → ∀ m, K + 2 ≤ m → At 1 last sc m o f v := fun K h m hm => by
    obtain ⟨m, rfl⟩ : ∃ k, m = k + 2 := ⟨m - 2, by omega⟩
    exact at1 (h m (by omega))
  have d0 : ∀ K, (∀ m, K ≤ m → At 1 last sc m o f v) → ∀ m, K + 1 ≤ m → At 0 last sc m o f v := fun K h m hm => by
    obtain ⟨m, rfl⟩ : ∃ k, m = k + 1 := ⟨m - 1, by omega⟩
    exact at0 (h m (by omega))
  intro k hk h l hl m hm
  match k, l, hk, hl, h with
  | 4, 4, _, _, h => exact h m (by omega)
  | 4, 3, _, _, h => exact d3 h m (by omega)
  | 4, 2, _, _, h => exact d2 (d3 h) m (by omega)
  | 4, 1, _, _, h => exact d1 _ (d2 (d3 h)) m (by omega)
  | 4, 0, _, _, h => exact d0 _ (d1 _ (d2 (d3 h))) m (by omega)
  | 3, 3, _, _, h => exact h m (by omega)
  | 3, 2, _, _, h => exact d2 h m (by omega)
  | 3, 1, _, _, h => exact d1 _ (d2 h) m (by omega)
  | 3, 0, _, _, h => exact d0 _ (d1 _ (d2 h)) m (by omega)
  | 2, 2, _, _, h => exact h m (by omega)
  | 2, 1, _, _, h => exact d1 _ h m (by omega)
  | 2, 0, _, _, h => exact d0 _ (d1 _ h) m (by omega)
  | 1, 1, _, _, h => exact h m (by omega)
  | 1, 0, _, _, h => exact d0 _ h m (by omega)
  | 0, 0, _, _, h => exact h m (by omega)
  | 3, 4, _, hl, _ => exact absurd hl (by decide)
  | 2, 3, _, hl, _ => exact absurd hl (by decide)
  | 2, 4, _, hl, _ => exact absurd hl (by decide)
  | 1, 2, _, hl, _ => exact absurd hl (by decide)
  | 1, 3, _, hl, _ => exact absurd hl (by decide)
  | 1, 4, _, hl, _ => exact absurd hl (by decide)
  | 0, 1, _, hl, _ => exact absurd hl (by decide)
  | 0, 2, _, hl, _ => exact absurd hl (by decide)
  | 0, 3, _, hl, _ => exact absurd hl (by decide)
  | 0, 4, _, hl, _ => exact absurd hl (by decide)
  | k + 5, _, hk, _, _ => exact absurd hk (by omega)
  | 0, l + 5, _, hl, _ => exact absurd hl (by omega)
  | 1, l + 5, _, hl, _ => exact absurd hl (by omega)
  | 2, l + 5, _, hl, _ => exact absurd hl (by omega)
  | 3, l + 5, _, hl, _ => exact absurd hl (by omega)
  | 4, l + 5, _, hl, _ => exact absurd hl (by omega)
theorem tm_head {sc : List Str} {n : Nat} {t : Tm} (h : TOk sc n t) (hs : ∀ x ∈ sc, VarOk x) : ∃ w r, t.w = w :: r ∧ ((isVar w = true ∧ w ∈ sc) ∨ (isName w = true ∧ w ∉ reserved)) := by
  cases h with
  | var hx => exact ⟨_, _, rfl, .inl ⟨isVar_of (hs _ hx), hx⟩⟩
  | cst hf => exact ⟨_, _, rfl, .inr ⟨hf.1, hf.2.1⟩⟩
  | un hf _ => exact ⟨_, _, rfl, .inr ⟨hf.1, hf.2.1⟩⟩
  | @mu n f args hf h2 _ _ =>
    cases args with
    | nil => exact absurd h2 (by decide)
    | cons a r => exact ⟨_, _, rfl, .inr ⟨hf.1, hf.2.1⟩⟩
theorem no_op {w : Str} (h : isVar w = true ∨ (isName w = true ∧ w ∉ reserved)) : w ∉ (["~", "(", "all", "some", "true", "false"] : List Str) := by
  intro hm
  have v1 : isVar ("~" : Str) = false := by decide +kernel
  have v2 : isVar ("(" : Str) = false := by decide +kernel
  have v3 : isVar ("all" : Str) = false := by decide +kernel
  have v4 : isVar ("some" : Str) = false := by decide +kernel
  have v5 : isVar ("true" : Str) = false := by decide +kernel
  have v6 : isVar ("false" : Str) = false := by decide +kernel
  have n1 : isName ("~" : Str) = false := by decide +kernel
  have n2 : isName ("(" : Str) = false := by decide +kernel
  have r3 : ("all" : Str) ∈ reserved := by decide +kernel
  have r4 : ("some" : Str) ∈ reserved := by decide +kernel
  have r5 : ("true" : Str) ∈ reserved := by decide +kernel
  have r6 : ("false" : Str) ∈ reserved := by decide +kernel
  simp only [List.mem_cons, List.not_mem_nil, or_false] at hm
  rcases hm with rfl | rfl | rfl | rfl | rfl | rfl <;> rcases h with h | ⟨h, h'⟩ <;> simp_all
theorem fol_par {last : Bool} {w : Str} (h : Fol 4 last w) : w ≠ ("(" : Str) ∧ w ≠ ("=" : Str) ∧ w ≠ ("!=" : Str) :=
  ⟨h.not (by decide +kernel) (by decide +kernel), h.not (by decide +kernel) (by decide +kernel), h.not (by decide +kernel) (by decide +kernel)⟩
end Ele
end
section
set_option Elab.async false
set_option linter.all false
set_option maxRecDepth 100000
set_option maxHeartbeats 1000000
namespace Ele
open PySem (Str PyData)
def Claim : RK → Fm → List Str → Prop
  | .w l last, f, v => l ≤ 4 → ∀ sc n o, FOk sc n f → (∀ x ∈ sc, VarOk x) → (o + 2 * n + 6 ≤ 40 ∧ sc.length + n ≤ 10) → ∀ m, 12 * n + 24 ≤ m → At l last sc m o f v
  | .p last, f, v => ∀ sc n o, FOk sc n f → (∀ x ∈ sc, VarOk x) → (o + 2 * n + 5 ≤ 40 ∧ sc.length + n ≤ 10) → (f.isQ = true → last = true) → ∀ m, 12 * n + 14 ≤ m → At f.own last sc m o f v
  | .q q, f, v => ∀ sc n o, FOk sc n f → (∀ x ∈ sc, VarOk x) → (o + 2 * n + 7 ≤ 40 ∧ sc.length + n ≤ 10) → ∀ m, 12 * n + 24 ≤ m → ∀ w r, w ∈ enders →
      ∃ xs ts h g, (∀ x, isVar x = true → QV o (x :: (v ++ w :: r)) (x :: xs) ((":" : Str) :: ts)) ∧ PF m .form (sc ++ xs) (o + 1 + xs.length) ts h g (w :: r) ∧ f.h = h + xs.length ∧ f.d = quD (qw q) xs g
theorem own_le (f : Fm) : f.own ≤ 4 := by
  cases f with
  | bin k _ _ =>
    show k.lv ≤ 4
    cases k <;> decide
  | _ => exact Nat.le_refl 4
theorem qw_cases (q : Bool) : qw q = ("all" : Str) ∨ qw q = ("some" : Str) := by cases q <;> simp [qw]
theorem tw_cases (b : Bool) : tw b = ("true" : Str) ∨ tw b = ("false" : Str) := by cases b <;> simp [tw]
/-- an atom's words begin no other unit -/
theorem atom_unit {sc : List Str} {m o : Nat} {v : List Str} {w0 : Str} {r0 ts : List Str} {h : Nat} {g : PyData} {r : List Str} (e : v ++ ts = w0 :: r0) (hw : isVar w0 = true ∨ (isName w0 = true ∧ w0 ∉ reserved)) (p : PF m .atom sc o (v ++ ts) h g r) : PF (m + 1) .unit sc o (v ++ ts) h g r := by
  rw [e] at p ⊢
  exact .atm (no_op hw) p
theorem head_or {sc : List Str} {w : Str} (h : (isVar w = true ∧ w ∈ sc) ∨ (isName w = true ∧ w ∉ reserved)) : isVar w = true ∨ (isName w = true ∧ w ∉ reserved) := h.imp (fun h => h.1) id
theorem isVar_name {w : Str} (h : isName w = true) : isVar w = false := by
  unfold isName at h
  unfold isVar
  cases e : tlw w with
  | nil => rfl
  | cons c r =>
    rw [e] at h
    have h' : small c = true := h
    show capital c = false
    simp only [small, Bool.and_eq_true, decide_eq_true_eq] at h'
    simp only [capital, Bool.and_eq_false_iff, decide_eq_false_iff_not]
    exact .inr (by omega)
theorem pred_read {sc : List Str} (hs : ∀ x ∈ sc, VarOk x) {f : Str} {args : List Tm} (hf : Nm f) (hk : TOk sc 2 (.app f args)) {o : Nat} (ho : o + 5 ≤ 40) {last : Bool} : ∀ m, 14 ≤ m → At 4 last sc m o (.pr (.app f args)) (Tm.app f args).w := by
  intro m hm w r hw
  obtain ⟨m, rfl⟩ : ∃ k, m = k + 2 := ⟨m - 2, by omega⟩
  obtain ⟨h1, h2, h3⟩ := fol_par hw
  have p := term_reads hs hk m o w r (by omega) (by omega) h1
  have e : ∃ r0, (Tm.app f args).w = f :: r0 := by cases args <;> exact ⟨_, rfl⟩
  obtain ⟨r0, e⟩ := e
  rw [e] at p ⊢
  exact .atm (no_op (.inr ⟨hf.1, hf.2.1⟩)) (.al (isVar_name hf.1) p h2 h3)
theorem reads {k : RK} {f : Fm} {v : List Str} (h : Rn k f v) : Claim k f v := by
  induction h with
  | @par l last f v _ ih =>
    intro hl sc n o ok hs ho
    refine fun m hm => at_all (M := 12 * n + 20) (k := 4) (by decide) ?_ l hl m (by omega)
    intro m hm w r hw
    obtain ⟨m, rfl⟩ : ∃ k, m = k + 1 := ⟨m - 1, by omega⟩
    have a := at_all (M := 12 * n + 14) f.own (own_le f) (ih sc n (o + 1) ok hs (by omega) (fun _ => rfl)) 0 (Nat.zero_le _) m (by omega)
    have e : (("(" : Str) :: (v ++ [(")" : Str)])) ++ w :: r = ("(" : Str) :: (v ++ (")" : Str) :: w :: r) := by simp
    rw [e]
    exact .par rfl (by omega) (a (")" : Str) (w :: r) (.inl (by decide +kernel))) rfl
  | bare hl hq _ ih =>
    intro _ sc n o ok hs ho m hm
    exact at_all (M := 12 * n + 14) _ (own_le _) (ih sc n o ok hs (by omega) hq) _ hl m (by omega)
  | tt =>
    intro sc n o ok hs ho _ m hm w r hw
    obtain ⟨m, rfl⟩ : ∃ k, m = k + 1 := ⟨m - 1, by omega⟩
    exact .tt (tw_cases _)
  | pr =>
    intro sc n o ok hs ho _ m hm
    cases ok with
    | pr0 hf => exact pred_read hs hf (.cst hf) (by omega) m (by omega)
    | pr1 hf ha => exact pred_read hs hf (.un hf ha) (by omega) m (by omega)
    | @pr2 _ _ f a b hf ha hb =>
      intro w r hw
      obtain ⟨m, rfl⟩ : ∃ k, m = k + 3 := ⟨m - 3, by omega⟩
      obtain ⟨h1, h2, h3⟩ := fol_par hw
      have e : (Tm.app f [a, b]).w ++ w :: r = f :: ("(" : Str) :: (a.w ++ ("," : Str) :: (b.w ++ (")" : Str) :: w :: r)) := by simp [Tm.w, Tm.ws]
      show PF (m + 3) .unit sc o ((Tm.app f [a, b]).w ++ w :: r) _ _ _
      rw [e]
      refine .atm (no_op (.inr ⟨hf.1, hf.2.1⟩)) (.al (isVar_name hf.1) (.app hf.1 hf.2.1 rfl (by omega) (term_reads hs ha m (o + 1) _ _ (by omega) (by omega) (by decide +kernel)) (.more rfl (term_reads hs hb m (o + 1) _ _ (by omega) (by omega) (by decide +kernel)) (.done (by decide +kernel))) rfl (by show 1 ≤ 7; decide)) h2 h3)
  | @eq last s t =>
    intro sc n o ok hs ho _ m hm w r hw
    cases ok with
    | eq ha hb =>
      obtain ⟨m, rfl⟩ : ∃ k, m = k + 2 := ⟨m - 2, by omega⟩
      obtain ⟨h1, h2, h3⟩ := fol_par hw
      obtain ⟨w0, r0, e0, hd⟩ := tm_head ha hs
      have e : (s.w ++ ("=" : Str) :: t.w) ++ w :: r = s.w ++ ("=" : Str) :: (t.w ++ w :: r) := by simp
      have p : PF (m + 1) .atom sc o ((s.w ++ ("=" : Str) :: t.w) ++ w :: r) 1 (eqD s.d t.d) (w :: r) := by
        rw [e]
        exact .eq (term_reads hs ha m o _ _ (by omega) (by omega) (by decide +kernel)) rfl (term_reads hs hb m o _ _ (by omega) (by omega) h1)
      exact atom_unit (w0 := w0) (by rw [e0] <;> rfl) (head_or hd) p
  | @ne last s t =>
    intro sc n o ok hs ho _ m hm w r hw
    cases ok with
    | neg ok =>
      cases ok with
      | eq ha hb =>
        obtain ⟨m, rfl⟩ : ∃ k, m = k + 2 := ⟨m - 2, by omega⟩
        obtain ⟨h1, h2, h3⟩ := fol_par hw
        obtain ⟨w0, r0, e0, hd⟩ := tm_head ha hs
        have e : (s.w ++ ("!=" : Str) :: t.w) ++ w :: r = s.w ++ ("!=" : Str) :: (t.w ++ w :: r) := by simp
        have p : PF (m + 1) .atom sc o ((s.w ++ ("!=" : Str) :: t.w) ++ w :: r) 2 (notD (eqD s.d t.d)) (w :: r) := by
          rw [e]
          exact .ne (term_reads hs ha m o _ _ (by omega) (by omega) (by decide +kernel)) rfl (term_reads hs hb m o _ _ (by omega) (by omega) h1)
        exact atom_unit (w0 := w0) (by rw [e0] <;> rfl) (head_or hd) p
  | neg _ ih =>
    intro sc n o ok hs ho _ m hm w r hw
    cases ok with
    | @neg _ n _ ok =>
      obtain ⟨m, rfl⟩ : ∃ k, m = k + 1 := ⟨m - 1, by omega⟩
      refine .neg rfl (by omega) (ih (by decide) sc n (o + 1) ok hs (by omega) m (by omega) w r ?_)
      rcases hw with hw | hw
      · exact .inl hw
      · exact .inr ⟨rfl, hw.2⟩
  | @bin last k f g v u _ _ ih1 ih2 =>
    intro sc n o ok hs ho _ m hm
    cases ok with
    | @bin _ n _ _ _ okf okg =>
      have e : ∀ w r, (v ++ k.op :: u) ++ w :: r = v ++ k.op :: (u ++ w :: r) := fun w r => by simp
      cases k with
      | and =>
        intro w r h φ r' hw q
        rw [e]
        exact ih1 (by decide) sc n o okf hs (by omega) m (by omega) _ _ _ _ _ (.inr ⟨rfl, by decide +kernel⟩) (.cl1 rfl (ih2 (by decide) sc n o okg hs (by omega) m (by omega) w r hw) q)
      | or =>
        intro w r h φ r' hw q
        rw [e]
        obtain ⟨m, rfl⟩ : ∃ k, m = k + 1 := ⟨m - 1, by omega⟩
        refine ih1 (by decide) sc n o okf hs (by omega) (m + 1) (by omega) _ _ _ _ _ (.inr ⟨rfl, by decide +kernel⟩) (.dl1 rfl ?_ q)
        exact ih2 (by decide) sc n o okg hs (by omega) m (by omega) w r _ _ _ (hw.up (by decide)) (.cl0 (hw.not (by decide +kernel) (by decide +kernel)))
      | imp =>
        intro w r hw
        rw [e]
        obtain ⟨m, rfl⟩ : ∃ k, m = k + 2 := ⟨m - 2, by omega⟩
        refine .im1 (disj_of (ih1 (by decide) sc n o okf hs (by omega) m (by omega)) (.inr ⟨rfl, by decide +kernel⟩) (by decide +kernel)) rfl (by omega) ?_
        exact ih2 (by decide) sc n (o + 1) okg hs (by omega) (m + 1) (by omega) w r hw
      | iff =>
        intro w r hw
        rw [e]
        obtain ⟨m, rfl⟩ : ∃ k, m = k + 1 := ⟨m - 1, by omega⟩
        exact .fo1 (ih1 (by decide) sc n o okf hs (by omega) m (by omega) _ _ (.inr ⟨rfl, by decide +kernel⟩)) rfl (ih2 (by decide) sc n o okg hs (by omega) m (by omega) w r (hw.up (by decide)))
  | @qu last q x f v _ ih =>
    intro sc n o ok hs ho hq m hm w r hw
    cases ok with
    | @qu _ n _ _ _ hx ok =>
      have hl : last = true := hq rfl
      subst hl
      have hw : w ∈ enders := by
        rcases hw with hw | hw
        · exact hw
        · cases hw.1
      obtain ⟨m, rfl⟩ : ∃ k, m = k + 2 := ⟨m - 2, by omega⟩
      obtain ⟨xs, ts, h, g, q1, q2, q3, q4⟩ := ih (sc ++ [x]) n o ok (fun y hy => by
        rcases List.mem_append.mp hy with hy | hy
        · exact hs y hy
        · rw [List.mem_singleton.mp hy]; exact hx) (by rw [List.length_append, List.length_singleton]; omega) m (by omega) w r hw
      have z := PF.qu (q := qw q) (sc := sc) (by omega) (q1 x (isVar_of hx)) rfl (show PF m .form (sc ++ (x :: xs)) (o + (x :: xs).length) ts h g (w :: r) by
        rw [List.append_assoc] at q2
        rw [List.length_cons, Nat.add_comm xs.length 1, ← Nat.add_assoc]
        exact q2) hw
      have e1 : (Fm.qu q x f).h = h + (x :: xs).length := by
        show f.h + 1 = _
        rw [q3, List.length_cons, Nat.add_assoc]
      have e2 : (Fm.qu q x f).d = quD (qw q) (x :: xs) g := by
        show PyData.tuple [.str (qw q), .str x, f.d] = _
        rw [q4] <;> rfl
      show PF (m + 2) .unit sc o (qw q :: x :: (v ++ w :: r)) (Fm.qu q x f).h (Fm.qu q x f).d (w :: r)
      rw [e1, e2]
      exact .qun (qw_cases q) z
  | @stop q f v _ ih =>
    intro sc n o ok hs ho m hm w r hw
    refine ⟨[], v ++ w :: r, f.h, f.d, fun x hx => .one hx (by omega) (by decide +kernel), ?_, rfl, rfl⟩
    rw [List.append_nil]
    exact ih (by decide) sc n (o + 1) ok hs (by omega) m (by omega) w r (.inl hw)
  | @more q y f v _ ih =>
    intro sc n o ok hs ho m hm w r hw
    cases ok with
    | @qu _ n _ _ _ hx ok =>
      obtain ⟨xs, ts, h, g, q1, q2, q3, q4⟩ := ih (sc ++ [y]) n (o + 1) ok (fun z hy => by
        rcases List.mem_append.mp hy with hy | hy
        · exact hs z hy
        · rw [List.mem_singleton.mp hy]; exact hx) (by rw [List.length_append, List.length_singleton]; omega) m (by omega) w r hw
      refine ⟨y :: xs, ts, h, g, fun x hx' => .more hx' (by omega) rfl (q1 y (isVar_of hx)), ?_, ?_, ?_⟩
      · rw [List.append_assoc] at q2
        rw [List.length_cons, show o + 1 + (xs.length + 1) = o + 1 + 1 + xs.length by omega]
        exact q2
      · show f.h + 1 = _
        rw [q3, List.length_cons, Nat.add_assoc]
      · show PyData.tuple [.str (qw q), .str y, f.d] = _
        rw [q4] <;> rfl
/-- a whole formula of the law, read -/
theorem form_reads {n : Nat} {f : Fm} {v : List Str} (ok : FOk [] n f) (hn : n ≤ 4) (h : Rn (.w 0 true) f v) {w : Str} (hw : w ∈ enders) (r : List Str) : PF 72 .form [] 0 (v ++ w :: r) f.h f.d (w :: r) :=
  reads h (by decide) [] n 0 ok (fun x hx => by cases hx) (by rw [List.length_nil]; omega) 72 (by omega) w r (.inl hw)
theorem h_le {sc : List Str} {n : Nat} {f : Fm} (ok : FOk sc n f) : f.h ≤ n + 1 := by
  induction ok with
  | neg _ ih => simp only [Fm.h]; omega
  | bin _ _ i j => simp only [Fm.h]; omega
  | qu _ _ ih => simp only [Fm.h]; omega
  | _ => simp only [Fm.h]; omega
end Ele
end
section
set_option Elab.async false
set_option linter.all false
set_option maxRecDepth 100000
set_option maxHeartbeats 1000000
namespace Ele
open PySem (Str PyData)
theorem ext_w {x y : Str} (h : tlw x = tlw y) : x = y := by
  obtain ⟨a⟩ := x
  obtain ⟨b⟩ := y
  have e : a = b := Array.toList_inj.mp h
  rw [e]
theorem tlw_add (x y : Str) : tlw (x ++ y) = tlw x ++ tlw y := by
  show (x.cps ++ y.cps).toList = _
  rw [Array.toList_append]
theorem tlw_len (x : Str) : (tlw x).length = x.length := by
  show x.cps.toList.length = x.cps.size
  rw [Array.length_toList]
theorem add_len (x y : Str) : (x ++ y).length = x.length + y.length := by
  rw [← tlw_len, tlw_add, List.length_append, tlw_len, tlw_len]
def isW (w : Str) : Bool := isName w || isVar w
/-- what the lexer can take as one token -/
def LexW (w : Str) : Prop := (isW w = true ∧ w.length ≤ 20 ∧ ∀ c ∈ tlw w, wordc c = true) ∨ w ∈ signs
/-- the code list as tokens -/
inductive Lx : List Nat → List Str → Prop
  | nil : Lx [] []
  | nl {c cs ws} : c = 10 → Lx cs ws → Lx (c :: cs) ws
  | bl {c cs ws} : c = 32 ∨ c = 9 → Lx cs ws → Lx (c :: cs) ws
  | rem {c r cs ws} : c = 35 → (∀ x ∈ r, x ≠ 10) → Lx (10 :: cs) ws → Lx (c :: (r ++ 10 :: cs)) ws
  | word {w cs ws} : isW w = true → w.length ≤ 20 → (∀ c ∈ tlw w, wordc c = true) → (∀ c r, cs = c :: r → wordc c = false) → Lx cs ws → Lx (tlw w ++ cs) (w :: ws)
  | sign {w cs ws} : w ∈ signs → Lx cs ws → Lx (tlw w ++ cs) (w :: ws)
def gaps : List Str := [" # a -> b ( $\n", "\n", "\t ", " "]
def gapOk (a b g : Str) : Prop := g ∈ gaps ∨ (g = "" ∧ ¬ (isW a = true ∧ isW b = true))
inductive Jt : List Str → Str → Str → Prop
  | nil : Jt [] "" ""
  | snoc {ws p t w g} : Jt ws p t → gapOk p w g → Jt (ws ++ [w]) w (t ++ g ++ w)
theorem sign_head {w : Str} (h : w ∈ signs) : ∃ c r, tlw w = c :: r ∧ wordc c = false ∧ isW w = false := by
  have a : ∀ w ∈ signs, ∃ c r, tlw w = c :: r ∧ wordc c = false ∧ isW w = false := by
    intro w h
    simp only [signs, List.mem_cons, List.not_mem_nil, or_false] at h
    rcases h with rfl | rfl | rfl | rfl | rfl | rfl | rfl | rfl | rfl | rfl | rfl | rfl
    all_goals (refine ⟨_, _, rfl, by decide +kernel, by decide +kernel⟩)
  exact a w h
theorem gap_lx {g : Str} (h : g ∈ gaps) {cs : List Nat} {ws : List Str} (l : Lx cs ws) : Lx (tlw g ++ cs) ws ∧ ∃ c r, tlw g ++ cs = c :: r ∧ wordc c = false := by
  simp only [gaps, List.mem_cons, List.not_mem_nil, or_false] at h
  rcases h with rfl | rfl | rfl | rfl
  · refine ⟨?_, _, _, rfl, by decide +kernel⟩
    exact .bl (.inl rfl) (.rem (r := [32, 97, 32, 45, 62, 32, 98, 32, 40, 32, 36]) rfl (by decide) (.nl rfl l))
  · exact ⟨.nl rfl l, _, _, rfl, by decide +kernel⟩
  · exact ⟨.bl (.inr rfl) (.bl (.inl rfl) l), _, _, rfl, by decide +kernel⟩
  · exact ⟨.bl (.inl rfl) l, _, _, rfl, by decide +kernel⟩
theorem jt_lx {ws : List Str} {p t : Str} (j : Jt ws p t) : (∀ w ∈ ws, LexW w) → ∀ cs us, (isW p = true → ∀ c r, cs = c :: r → wordc c = false) → Lx cs us → Lx (tlw t ++ cs) (ws ++ us) := by
  induction j with
  | nil => exact fun _ cs us _ l => l
  | @snoc ws p t w g j hg ih =>
    intro hw cs us hc l
    have lw : Lx (tlw w ++ cs) (w :: us) := by
      rcases hw w (by simp) with ⟨h1, h2, h3⟩ | h
      · exact .word h1 h2 h3 (hc h1) l
      · exact .sign h l
    have e : tlw (t ++ g ++ w) ++ cs = tlw t ++ (tlw g ++ (tlw w ++ cs)) := by
      rw [tlw_add, tlw_add]; simp
    rw [e, show (ws ++ [w]) ++ us = ws ++ (w :: us) by simp]
    have hws : ∀ w ∈ ws, LexW w := fun x hx => hw x (List.mem_append_left _ hx)
    rcases hg with hg | ⟨rfl, hg⟩
    · obtain ⟨l2, c0, r0, e0, hn⟩ := gap_lx hg lw
      exact ih hws _ _ (fun _ c r e1 => by
        rw [e0] at e1
        cases e1
        exact hn) l2
    · show Lx (tlw t ++ (tlw w ++ cs)) _
      refine ih hws _ _ (fun hp c r e1 => ?_) lw
      rcases hw w (by simp) with ⟨h1, _⟩ | h
      · exact absurd ⟨hp, h1⟩ hg
      · obtain ⟨c0, r0, e0, hn, _⟩ := sign_head h
        rw [e0] at e1
        cases e1
        exact hn
/-- the whole text, its last gap too -/
theorem joined_lx {ws : List Str} {p t : Str} (j : Jt (ws ++ [("" : Str)]) p t) (hw : ∀ w ∈ ws, LexW w) : Lx (tlw t) ws := by
  generalize e : ws ++ [("" : Str)] = us at j
  cases j with
  | nil => simp at e
  | @snoc vs p0 t w g j hg =>
    obtain ⟨e1, e2⟩ := List.append_inj' e rfl
    subst e1
    have e2 : p = "" := by simpa using e2.symm
    subst e2
    have e3 : tlw (t ++ g ++ "") = tlw t ++ (tlw g ++ []) := by
      rw [tlw_add, tlw_add]
      show _ ++ [] = _
      simp
    rw [e3]
    have e4 : ws = ws ++ [] := by simp
    rw [e4]
    rcases hg with hg | ⟨rfl, _⟩
    · obtain ⟨l2, c0, r0, e0, hn⟩ := gap_lx hg .nil
      exact jt_lx j hw _ _ (fun _ c r e1 => by
        rw [e0] at e1
        cases e1
        exact hn) l2
    · exact jt_lx j hw _ _ (fun _ c r e1 => by cases e1) .nil
/-! ### how long -/
def wt : List Str → Nat
  | [] => 0
  | w :: r => w.length + 14 + wt r
theorem wt_add : ∀ a b : List Str, wt (a ++ b) = wt a + wt b
  | [], b => by simp [wt]
  | w :: r, b => by simp only [List.cons_append, wt, wt_add r b]; omega
theorem gap_len {a b g : Str} (h : gapOk a b g) : g.length ≤ 14 := by
  rcases h with h | ⟨rfl, _⟩
  · simp only [gaps, List.mem_cons, List.not_mem_nil, or_false] at h
    rcases h with rfl | rfl | rfl | rfl <;> decide +kernel
  · decide +kernel
theorem jt_len {ws : List Str} {p t : Str} (j : Jt ws p t) : t.length ≤ wt ws := by
  induction j with
  | nil => decide +kernel
  | snoc _ hg ih =>
    rw [add_len, add_len, wt_add]
    have := gap_len hg
    simp only [wt]
    omega
theorem ln (x : Str) {n : Nat} (h : x.length = n := by decide +kernel) : x.length = n := h
theorem nm_len {f : Str} (h : Nm f) : f.length ≤ 20 := h.2.2.1
theorem var_len {x : Str} (h : VarOk x) : x.length ≤ 3 := by
  simp only [VarOk, List.mem_cons, List.not_mem_nil, or_false] at h
  rcases h with rfl | rfl | rfl | rfl <;> decide +kernel
def tb : Nat → Nat
  | 0 => 34
  | n + 1 => 441 + 64 * n
theorem tb_mono (n : Nat) : tb n + 64 ≤ tb (n + 1) := by
  cases n with
  | zero => decide
  | succ n => simp only [tb]; omega
theorem ws_wt {B : Nat} : ∀ r : List Tm, (∀ a ∈ r, wt a.w ≤ B) → wt (Tm.ws r) ≤ r.length * (15 + B)
  | [], _ => by simp [Tm.ws, wt]
  | a :: r, h => by
    have ih := ws_wt r fun b hb => h b (List.mem_cons_of_mem _ hb)
    have h1 := h a List.mem_cons_self
    simp only [Tm.ws, wt, wt_add, List.length_cons]
    rw [ln ("," : Str) (n := 1), Nat.add_mul]
    omega
theorem tm_wt {sc : List Str} (hs : ∀ x ∈ sc, VarOk x) {n : Nat} {t : Tm} (h : TOk sc n t) : wt t.w ≤ tb n := by
  induction h with
  | @var n x hx =>
    have := var_len (hs _ hx)
    cases n <;> simp only [Tm.w, wt, tb] <;> omega
  | @cst n f hf =>
    have := nm_len hf
    cases n <;> simp only [Tm.w, wt, tb] <;> omega
  | @un n f a hf ha ih =>
    have := nm_len hf
    have := tb_mono n
    simp only [Tm.w, Tm.ws, wt, wt_add]
    rw [ln ("(" : Str) (n := 1)]
    rw [ln (")" : Str) (n := 1)]
    omega
  | @mu n f args hf h2 h8 ha ih =>
    cases args with
    | nil => exact absurd h2 (by decide)
    | cons a r =>
      have := nm_len hf
      have h1 := ih a List.mem_cons_self
      have h3 := ws_wt r fun b hb => ih b (List.mem_cons_of_mem _ hb)
      rw [List.length_cons] at h8
      have h4 : r.length * (15 + tb 0) ≤ 7 * (15 + tb 0) := Nat.mul_le_mul_right _ (by omega)
      simp only [Tm.w, wt, wt_add]
      rw [ln ("(" : Str) (n := 1), ln (")" : Str) (n := 1)]
      simp only [tb] at *
      omega
def pb : Nat → Nat
  | 0 => 961
  | n + 1 => 2 * pb n + 77
theorem pb_lo (n : Nat) : 961 ≤ pb n := by
  induction n with
  | zero => decide
  | succ n ih => simp only [pb]; omega
def LClaim : RK → Fm → List Str → Prop
  | .w _ _, f, v => ∀ sc n, FOk sc n f → (∀ x ∈ sc, VarOk x) → wt v ≤ pb n + 30 ∧ ∀ w ∈ v, LexW w
  | .p _, f, v => ∀ sc n, FOk sc n f → (∀ x ∈ sc, VarOk x) → wt v ≤ pb n ∧ ∀ w ∈ v, LexW w
  | .q _, f, v => ∀ sc n, FOk sc n f → (∀ x ∈ sc, VarOk x) → wt v ≤ pb n + 45 ∧ ∀ w ∈ v, LexW w
theorem sgn {w : Str} (h : w ∈ signs := by decide +kernel) : LexW w := .inr h
theorem nm_lex {f : Str} (h : Nm f) : LexW f := .inl ⟨by unfold isW; rw [h.1] <;> rfl, h.2.2.1, h.2.2.2⟩
theorem var_lex {x : Str} (h : VarOk x) : LexW x := by
  simp only [VarOk, List.mem_cons, List.not_mem_nil, or_false] at h
  rcases h with rfl | rfl | rfl | rfl <;> exact .inl (by decide +kernel)
theorem ws_lex : ∀ r : List Tm, (∀ a ∈ r, ∀ w ∈ a.w, LexW w) → ∀ w ∈ Tm.ws r, LexW w
  | [], _ => fun w hw => by simp [Tm.ws] at hw
  | a :: r, h => fun w hw => by
    have ih := ws_lex r fun b hb => h b (List.mem_cons_of_mem _ hb)
    simp only [Tm.ws, List.mem_cons, List.mem_append] at hw
    rcases hw with rfl | hw | hw
    · exact sgn
    · exact h a List.mem_cons_self w hw
    · exact ih w hw
theorem tm_lex {sc : List Str} (hs : ∀ x ∈ sc, VarOk x) {n : Nat} {t : Tm} (h : TOk sc n t) : ∀ w ∈ t.w, LexW w := by
  induction h with
  | var hx =>
    intro w hw
    rw [Tm.w, List.mem_singleton] at hw
    subst hw
    exact var_lex (hs _ hx)
  | cst hf =>
    intro w hw
    rw [Tm.w, List.mem_singleton] at hw
    subst hw
    exact nm_lex hf
  | un hf ha ih =>
    intro w hw
    simp only [Tm.w, Tm.ws, List.mem_cons, List.mem_append, List.not_mem_nil, false_or, or_false, List.nil_append] at hw
    rcases hw with rfl | rfl | hw | rfl
    · exact nm_lex hf
    · exact sgn
    · exact ih w hw
    · exact sgn
  | @mu n f args hf h2 h8 ha ih =>
    cases args with
    | nil => exact absurd h2 (by decide)
    | cons a r =>
      intro w hw
      simp only [Tm.w, List.mem_cons, List.mem_append, List.not_mem_nil, or_false] at hw
      rcases hw with rfl | rfl | hw | hw | rfl
      · exact nm_lex hf
      · exact sgn
      · exact ih a List.mem_cons_self w hw
      · exact ws_lex r (fun b hb => ih b (List.mem_cons_of_mem _ hb)) w hw
      · exact sgn
theorem kw_lex {w : Str} (h : w ∈ reserved) : LexW w := by
  simp only [reserved, List.mem_cons, List.not_mem_nil, or_false] at h
  rcases h with rfl | rfl | rfl | rfl | rfl | rfl <;> exact .inl (by decide +kernel)
theorem op_lex (k : Bk) : LexW k.op ∧ k.op.length ≤ 3 := by
  cases k <;> exact ⟨sgn, by decide +kernel⟩
theorem lens {k : RK} {f : Fm} {v : List Str} (h : Rn k f v) : LClaim k f v := by
  induction h with
  | par _ ih =>
    intro sc n ok hs
    obtain ⟨h1, h2⟩ := ih sc n ok hs
    refine ⟨?_, fun w hw => ?_⟩
    · simp only [wt, wt_add]
      rw [ln ("(" : Str) (n := 1), ln (")" : Str) (n := 1)]
      omega
    · simp only [List.mem_cons, List.mem_append, List.not_mem_nil, or_false] at hw
      rcases hw with rfl | hw | rfl
      · exact sgn
      · exact h2 w hw
      · exact sgn
  | bare _ _ _ ih =>
    intro sc n ok hs
    obtain ⟨h1, h2⟩ := ih sc n ok hs
    exact ⟨by omega, h2⟩
  | @tt last b =>
    intro sc n ok hs
    have := pb_lo n
    refine ⟨?_, fun w hw => ?_⟩
    · have : (tw b).length ≤ 5 := by cases b <;> decide +kernel
      simp only [wt]
      omega
    · rw [List.mem_singleton] at hw
      subst hw
      exact kw_lex (by cases b <;> decide +kernel)
  | @pr last s =>
    intro sc n ok hs
    have := pb_lo n
    cases ok with
    | pr0 hf => exact ⟨Nat.le_trans (tm_wt hs (.cst (n := 0) hf)) (by simp only [tb]; omega), tm_lex hs (.cst (n := 0) hf)⟩
    | pr1 hf ha => exact ⟨Nat.le_trans (tm_wt hs (.un hf ha)) (by simp only [tb]; omega), tm_lex hs (.un hf ha)⟩
    | @pr2 _ _ f a b hf ha hb =>
      have h1 := tm_wt hs ha
      have h2 := tm_wt hs hb
      have h3 := nm_len hf
      refine ⟨?_, fun w hw => ?_⟩
      · simp only [Tm.w, Tm.ws, wt, wt_add]
        rw [ln ("(" : Str) (n := 1), ln (")" : Str) (n := 1), ln ("," : Str) (n := 1)]
        simp only [tb] at h1 h2
        omega
      · simp only [Tm.w, Tm.ws, List.mem_cons, List.mem_append, List.not_mem_nil, or_false, List.append_nil] at hw
        rcases hw with rfl | rfl | hw | (rfl | hw) | rfl
        · exact nm_lex hf
        · exact sgn
        · exact tm_lex hs ha w hw
        · exact sgn
        · exact tm_lex hs hb w hw
        · exact sgn
  | @eq last s t =>
    intro sc n ok hs
    have := pb_lo n
    cases ok with
    | eq ha hb =>
      have h1 := tm_wt hs ha
      have h2 := tm_wt hs hb
      refine ⟨?_, fun w hw => ?_⟩
      · simp only [wt, wt_add]
        rw [ln ("=" : Str) (n := 1)]
        simp only [tb] at h1 h2
        omega
      · simp only [List.mem_cons, List.mem_append] at hw
        rcases hw with hw | rfl | hw
        · exact tm_lex hs ha w hw
        · exact sgn
        · exact tm_lex hs hb w hw
  | @ne last s t =>
    intro sc n ok hs
    cases ok with
    | @neg _ n _ ok =>
      have := pb_lo n
      cases ok with
      | eq ha hb =>
        have h1 := tm_wt hs ha
        have h2 := tm_wt hs hb
        refine ⟨?_, fun w hw => ?_⟩
        · simp only [wt, wt_add, pb]
          rw [ln ("!=" : Str) (n := 2)]
          simp only [tb] at h1 h2
          omega
        · simp only [List.mem_cons, List.mem_append] at hw
          rcases hw with hw | rfl | hw
          · exact tm_lex hs ha w hw
          · exact sgn
          · exact tm_lex hs hb w hw
  | neg _ ih =>
    intro sc n ok hs
    cases ok with
    | @neg _ n _ ok =>
      obtain ⟨h1, h2⟩ := ih sc n ok hs
      have := pb_lo n
      refine ⟨?_, fun w hw => ?_⟩
      · simp only [wt, pb]
        rw [ln ("~" : Str) (n := 1)]
        omega
      · rcases List.mem_cons.mp hw with rfl | hw
        · exact sgn
        · exact h2 w hw
  | @bin last k f g v u _ _ ih1 ih2 =>
    intro sc n ok hs
    cases ok with
    | @bin _ n _ _ _ okf okg =>
      obtain ⟨h1, h2⟩ := ih1 sc n okf hs
      obtain ⟨h3, h4⟩ := ih2 sc n okg hs
      obtain ⟨o1, o2⟩ := op_lex k
      refine ⟨?_, fun w hw => ?_⟩
      · simp only [wt, wt_add, pb]
        omega
      · simp only [List.mem_cons, List.mem_append] at hw
        rcases hw with hw | rfl | hw
        · exact h2 w hw
        · exact o1
        · exact h4 w hw
  | @qu last q x f v _ ih =>
    intro sc n ok hs
    cases ok with
    | @qu _ n _ _ _ hx ok =>
      obtain ⟨h1, h2⟩ := ih (sc ++ [x]) n ok fun y hy => by
        rcases List.mem_append.mp hy with hy | hy
        · exact hs y hy
        · rw [List.mem_singleton.mp hy]; exact hx
      have := var_len hx
      have := pb_lo n
      have : (qw q).length ≤ 4 := by cases q <;> decide +kernel
      refine ⟨?_, fun w hw => ?_⟩
      · simp only [wt, pb]
        omega
      · simp only [List.mem_cons] at hw
        rcases hw with rfl | rfl | hw
        · exact kw_lex (by cases q <;> decide +kernel)
        · exact var_lex hx
        · exact h2 w hw
  | stop _ ih =>
    intro sc n ok hs
    obtain ⟨h1, h2⟩ := ih sc n ok hs
    refine ⟨?_, fun w hw => ?_⟩
    · simp only [wt]
      rw [ln (":" : Str) (n := 1)]
      omega
    · rcases List.mem_cons.mp hw with rfl | hw
      · exact sgn
      · exact h2 w hw
  | @more q x f v _ ih =>
    intro sc n ok hs
    cases ok with
    | @qu _ n _ _ _ hx ok =>
      obtain ⟨h1, h2⟩ := ih (sc ++ [x]) n ok fun y hy => by
        rcases List.mem_append.mp hy with hy | hy
        · exact hs y hy
        · rw [List.mem_singleton.mp hy]; exact hx
      have := var_len hx
      have := pb_lo n
      refine ⟨?_, fun w hw => ?_⟩
      · simp only [wt, pb]
        rw [ln ("," : Str) (n := 1)]
        omega
      · simp only [List.mem_cons] at hw
        rcases hw with rfl | rfl | hw
        · exact sgn
        · exact var_lex hx
        · exact h2 w hw
theorem pb_mono {n m : Nat} (h : n ≤ m) : pb n ≤ pb m := by
  induction h with
  | refl => exact Nat.le_refl _
  | step _ ih => exact Nat.le_trans ih (by simp only [pb]; omega)
theorem form_len {n : Nat} {f : Fm} {v : List Str} (ok : FOk [] n f) (h : Rn (.w 0 true) f v) : wt v ≤ pb n + 30 ∧ ∀ w ∈ v, LexW w := lens h [] n ok fun x hx => by cases hx
end Ele
end
section
set_option Elab.async false
set_option linter.all false
set_option maxRecDepth 100000
set_option maxHeartbeats 2000000
namespace Ele
open PySem PySem.Spec PyProof.Rows L2
/-! ### heaps -/
/-- what was tracked stands, but for the object at r -/
def Fx (r : Addr) (H H' : Hp) : Prop := ∀ b o, b ≠ r → H b = some o → H' b = some o
def Ex (H H' : Hp) : Prop := ∀ b o, H b = some o → H' b = some o
section
variable {r p : Addr} {H H1 H2 H' : Hp} {o : HO}
theorem Ex.refl (H : Hp) : Ex H H := fun _ _ h => h
theorem Ex.trans (a : Ex H H1) (b : Ex H1 H2) : Ex H H2 := fun c o h => b c o (a c o h)
theorem Ex.new (h : H p = none) : Ex H (upd H p o) := fun b u q => by rw [upd_ne (ne_of_none q h)]; exact q
theorem Ex.fx (a : Ex H H') : Fx r H H' := fun b o _ h => a b o h
theorem Fx.refl (r : Addr) (H : Hp) : Fx r H H := fun _ _ _ h => h
theorem Fx.trans (a : Fx r H H1) (b : Fx r H1 H2) : Fx r H H2 := fun c o n h => b c o n (a c o n h)
theorem Fx.ex (a : Fx r H H1) (b : Ex H1 H2) : Fx r H H2 := fun c o n h => b c o (a c o n h)
theorem Fx.set : Fx r H (upd H r o) := fun b u n h => by rw [upd_ne n]; exact h
/-- an object that the entry did not know may change -/
theorem Fx.mut (a : Fx r H H') (h : H p = none) : Fx r H (upd H' p o) := fun b u n q => by rw [upd_ne (ne_of_none q h)]; exact a b u n q
theorem Ex.mut (a : Ex H H') (h : H p = none) : Ex H (upd H' p o) := fun b u q => by rw [upd_ne (ne_of_none q h)]; exact a b u q
theorem Fx.free (a : Fx r H H') (hr : H r = none → False) (h : H' p = none) (hp : p ≠ r) : H p = none := by
  cases q : H p with
  | none => rfl
  | some u => rw [a p u hp q] at h; cases h
theorem Ex.free (a : Ex H H') (h : H' p = none) : H p = none := by
  cases q : H p with
  | none => rfl
  | some u => rw [a p u q] at h; cases h
end
/-! ### data -/
section
variable {K : PySem.W.Frag} {H H' : Hp} {r : Addr}
mutual
def flatT : PyData → Bool
  | .list _ => false
  | .tuple ds => flatTs ds
  | _ => true
def flatTs : List PyData → Bool
  | [] => true
  | d :: ds => flatT d && flatTs ds
end
theorem sqt_fx {a : Addr} {xs : List V} (hr : ∀ xs, H r ≠ some (.tup xs)) (hz : ∀ o u, H r ≠ some (.frz o u)) (f : Fx r H H') (h : SqT K H a xs) : SqT K H' a xs := by
  rcases h with (h | ⟨o, h⟩) | h
  · exact .inl (.inl (f a _ (fun e => hr xs (e ▸ h)) h))
  · exact .inl (.inr ⟨o, f a _ (fun e => hz o _ (e ▸ h)) h⟩)
  · exact .inr h
mutual
theorem dp_fx (hr : ∀ xs, H r ≠ some (.tup xs)) (hz : ∀ o u, H r ≠ some (.frz o u)) (f : Fx r H H') : ∀ (d : PyData) {v : V}, flatT d = true → Dp K H v d → Dp K H' v d
  | .none, _, _, h => by cases h; exact .non
  | .bool _, _, _, h => by cases h; exact .bl _
  | .int _, _, _, h => by cases h; exact .int _
  | .str _, _, _, h => by cases h; exact .str _
  | .list _, _, t, _ => by cases t
  | .tuple ds, _, t, h => by
    cases h with
    | tup a b => exact .tup (sqt_fx hr hz f a) (dps_fx hr hz f ds t b)
  | .dict _, _, _, h => by cases h
theorem dps_fx (hr : ∀ xs, H r ≠ some (.tup xs)) (hz : ∀ o u, H r ≠ some (.frz o u)) (f : Fx r H H') : ∀ (ds : List PyData) {vs : List V}, flatTs ds = true → DpAll K H vs ds → DpAll K H' vs ds
  | [], _, _, h => by cases h; exact .nil
  | d :: ds, _, t, h => by
    cases h with
    | cons a b =>
      obtain ⟨t1, t2⟩ := Bool.and_eq_true_iff.mp (show (flatT d && flatTs ds) = true from t)
      exact .cons (dp_fx hr hz f d t1 a) (dps_fx hr hz f ds t2 b)
end
theorem sqt_ex {a : Addr} {xs : List V} (f : Ex H H') (h : SqT K H a xs) : SqT K H' a xs := by
  rcases h with (h | ⟨o, h⟩) | h
  · exact .inl (.inl (f a _ h))
  · exact .inl (.inr ⟨o, f a _ h⟩)
  · exact .inr h
theorem sql_ex {a : Addr} {xs : List V} (f : Ex H H') (h : SqL K H a xs) : SqL K H' a xs := by
  rcases h with (h | ⟨o, h⟩) | h
  · exact .inl (.inl (f a _ h))
  · exact .inl (.inr ⟨o, f a _ h⟩)
  · exact .inr h
mutual
theorem dp_ex (f : Ex H H') : ∀ (d : PyData) {v : V}, Dp K H v d → Dp K H' v d
  | .none, _, h => by cases h; exact .non
  | .bool _, _, h => by cases h; exact .bl _
  | .int _, _, h => by cases h; exact .int _
  | .str _, _, h => by cases h; exact .str _
  | .list ds, _, h => by
    cases h with
    | lst a b => exact .lst (sql_ex f a) (dps_ex f ds b)
  | .tuple ds, _, h => by
    cases h with
    | tup a b => exact .tup (sqt_ex f a) (dps_ex f ds b)
  | .dict _, _, h => by cases h
theorem dps_ex (f : Ex H H') : ∀ (ds : List PyData) {vs : List V}, DpAll K H vs ds → DpAll K H' vs ds
  | [], _, h => by cases h; exact .nil
  | d :: ds, _, h => by
    cases h with
    | cons a b => exact .cons (dp_ex f d a) (dps_ex f ds b)
end
theorem st_of {a : Addr} {xs : List V} (h : H a = some (.tup xs)) : SqT K H a xs := .inl (.inl h)
theorem sl_of {a : Addr} {xs : List V} (h : H a = some (.lst xs)) : SqL K H a xs := .inl (.inl h)
end
/-! ### a def of the text, as callers see it -/
structure Ok (P : Program) (w : World) (K : PySem.W.Frag) (mg : Str → Option Value) (base : Heap) (k : Nat) (f : Addr) (ps : List Str) (sp : Sp) : Prop where
  ex : ∃ fd, FnOk P w K mg base CX0 k f fd ps sp ∧ Binds K fd ps []
  kp : PySem.W.keepIn K (.ref f) = true
abbrev Fd (K : PySem.W.Frag) (d : He.DefD) : Prop := ∃ fd, FunD K d.name d.qual d.params d.body d.scope [] [] (He.fAd K d.at_) fd
section
variable {P : Program} {w : World} {K : PySem.W.Frag} {mg : Str → Option Value} {base : Heap}
theorem Ok.mono {j k : Nat} {f : Addr} {ps : List Str} {sp : Sp} (O : Ok P w K mg base j f ps sp) (h : j ≤ k) : Ok P w K mg base k f ps sp := by
  obtain ⟨fd, F, b⟩ := O.ex
  exact ⟨⟨fd, F.mono h, b⟩, O.kp⟩
theorem ok_mk {d : He.DefD} {N ps : List Str} {k : Nat} {sp : Sp} (F : Fd K d) (S : FnScope N ps d.scope)
    (hb : ∀ (kV doc pm : Value) (an : Option Addr) (cdv ct : Value) (us : List Value), us.length = ps.length → bindArgs (PySem.W.fnOf d.name d.qual d.params d.body d.scope .none kV doc pm an cdv ct) ⟨us, []⟩ = pure (ps.zip us))
    (len : ∀ vs H Q E, sp vs H Q E → vs.length = ps.length)
    (body : ∀ (f : Addr) (cdv : Value) (A : Around) (outer : List Env) (s : Shared) (H : Hp) (vs : List V) (Q : VK) (E : XK), Room k (A.deeper (envOfC d.qual d.scope s.heap.objs.size f cdv)) → sp vs H Q E →
      ∃ t, PSs (cxOf CX0 P w K mg base N d.qual d.scope f cdv A outer s H E).nox d.body t ∧ t { nx := fun _ H' => Q .non H', rt := Q } (start N vs) H) : Ok P w K mg base (k + 1) (He.fAd K d.at_) ps sp := by
  obtain ⟨fd, F⟩ := F
  refine ⟨⟨fd, F.ok S len fun cdv A outer s H vs Q E hr h => ?_, F.bindsN hb⟩, F.kp⟩
  obtain ⟨t, q1, q2⟩ := body _ cdv A outer s H vs Q E hr h
  exact ⟨t, q1.nox, q2⟩
end
/-! ### the class, the names of the top -/
abbrev CF (K : PySem.W.Frag) : Addr := He.ga K "FormulaReader"
abbrev mth (K : PySem.W.Frag) (m : Str) : Addr := He.ma K (CF K) m
structure Txt (K : PySem.W.Frag) (mg : Str → Option Value) : Prop where
  glo : ∀ x ∈ gloN, mg x = some (.ref (He.ga K x))
  free : ∀ x ∈ freeN, mg x = none
  mText : ∃ t, mg "MAX_TEXT" = some (.int 20000 t)
  mName : ∃ t, mg "MAX_NAME" = some (.int 20 t)
  mOpen : ∃ t, mg "MAX_OPEN" = some (.int 40 t)
  mHeight : ∃ t, mg "MAX_HEIGHT" = some (.int 40 t)
  mArgs : ∃ t, mg "MAX_ARGUMENTS" = some (.int 8 t)
  cSmall : ∃ t, mg "SMALL" = some (.str "abcdefghijklmnopqrstuvwxyz" t)
  cCap : ∃ t, mg "CAPITALS" = some (.str "ABCDEFGHIJKLMNOPQRSTUVWXYZ" t)
  cWord : ∃ t, mg "WORD_CHARACTERS" = some (.str "abcdefghijklmnopqrstuvwxyzABCDEFGHIJKLMNOPQRSTUVWXYZ0123456789_" t)
  cl : Cls K (CF K)
  noat : ∀ f ∈ noatN, NoAttr K (CF K) f
  meth : ∀ m ∈ methN, Meth K (CF K) m (mth K m)
  mkr : Mk K (CF K) (mth K "__init__")
  sg : ∀ H, SqT K H (He.ga K "SIGNS") (signs.map V.str)
  rs : ∀ H, SqT K H (He.ga K "RESERVED") (reserved.map V.str)
  tr : ∀ H, SqT K H (He.ga K "TRUE") [V.str "true"]
theorem txt_of {K : PySem.W.Frag} {mg : Str → Option Value} {w : World} {h : Heap} (X : K.In h) (G : h.Ns mainGlobals mg) (c : He.SaysX fa fn [] [] ex w h K) : Txt K mg := by
  have d := c.t.d
  obtain ⟨x1, x2⟩ := Bool.and_eq_true_iff.mp (show (He.tupB K "SIGNS" _ && (He.tupB K "RESERVED" _ && He.tupB K "TRUE" _)) = true from c.more)
  obtain ⟨x2, x3⟩ := Bool.and_eq_true_iff.mp x2
  have r : ∀ {f : He.Fa}, f ∈ faR → f.ok K = true := fun h => d.facts (List.mem_append_left _ h)
  have g1 : ∀ x ∈ gloN, (He.Fa.glo x).ok K = true := fun x hx => d.facts (List.mem_append_right _ (List.mem_append_left _ (List.mem_map_of_mem hx)))
  have g2 : ∀ x ∈ freeN, (He.Fa.free x).ok K = true := fun x hx => d.facts (List.mem_append_right _ (List.mem_append_right _ (List.mem_append_left _ (List.mem_map_of_mem hx))))
  have g3 : ∀ x ∈ methN, (He.Fa.meth "FormulaReader" x).ok K = true := fun x hx => d.facts (List.mem_append_right _ (List.mem_append_right _ (List.mem_append_right _ (List.mem_append_left _ (List.mem_map_of_mem hx)))))
  have g4 : ∀ x ∈ noatN, (He.Fa.noat "FormulaReader" x).ok K = true := fun x hx => d.facts (List.mem_append_right _ (List.mem_append_right _ (List.mem_append_right _ (List.mem_append_right _ (List.mem_map_of_mem hx)))))
  have at_ : ∀ (i : Nat) {f : He.Fa}, faR[i]? = some f → f ∈ faR := fun i _ h => List.mem_of_getElem? h
  exact ⟨fun x hx => He.glo_ok X G (g1 x hx), fun x hx => He.free_ok X G (g2 x hx), He.int_ok X G (r (at_ 0 rfl)), He.int_ok X G (r (at_ 1 rfl)), He.int_ok X G (r (at_ 2 rfl)), He.int_ok X G (r (at_ 3 rfl)), He.int_ok X G (r (at_ 4 rfl)),
    He.str_ok X G (r (at_ 5 rfl)), He.str_ok X G (r (at_ 6 rfl)), He.str_ok X G (r (at_ 7 rfl)), He.cls_ok (r (at_ 8 rfl)), fun f hf => He.noat_ok (g4 f hf), fun m hm => He.meth_ok (g3 m hm), He.mkr_ok (r (at_ 9 rfl)), fun H => He.tupB_ok x1 H, fun H => He.tupB_ok x2 H, fun H => He.tupB_ok x3 H⟩
theorem fd_of {K : PySem.W.Frag} {w : World} {h : Heap} (c : He.SaysX fa fn [] [] ex w h K) {d : He.DefD} (hd : d ∈ fn) (e1 : d.dfl = [] := by rfl) (e2 : d.kwd = [] := by rfl) : Fd K d := by
  obtain ⟨fd, F⟩ := c.t.d.defs hd
  refine ⟨fd, ?_⟩
  unfold He.DefD.dvs He.DefD.kws at F
  rw [e1, e2] at F
  exact F
end Ele
end
section
set_option Elab.async false
set_option linter.all false
set_option maxRecDepth 100000
set_option maxHeartbeats 2000000
namespace Ele
open PySem PySem.Spec PyProof.Rows L2
/-! ### readings with their own names -/
def tCl (sp : Sp) (t : TA) : TE := fun σ H Q => t σ H fun vs H1 => sp vs H1 Q E0
def mtRest (K : PySem.W.Frag) (sp : Sp) (m : Str) (t : TA) (σ : L2.St) (Q : VK) (x : V) (H1 : Hp) : Prop := ∃ a dx fs, x = .ref a ∧ H1 a = some (.ins (CF K) dx fs) ∧ fs.lookup m = none ∧ t σ H1 fun vs H2 => sp (x :: vs) H2 Q E0
def tMt (K : PySem.W.Frag) (sp : Sp) (m : Str) (ta : TE) (t : TA) : TE := fun σ H Q => ta σ H fun x H1 => mtRest K sp m t σ Q x H1
def fldRest (K : PySem.W.Frag) (f : Str) (Q : VK) (x : V) (H1 : Hp) : Prop := ∃ a C dx fs v, x = .ref a ∧ H1 a = some (.ins C dx fs) ∧ Cls K C ∧ NoAttr K C f ∧ fs.lookup f = some v ∧ Q v H1
def setRest (K : PySem.W.Frag) (f : Str) (nx : L2.St → Hp → Prop) (σ : L2.St) (y x : V) (H2 : Hp) : Prop := ∃ a C dx fs, x = .ref a ∧ H2 a = some (.ins C dx fs) ∧ Cls K C ∧ NoAttr K C f ∧ fs.length < 1000 ∧ nx σ (upd H2 a (.ins C dx (putF f y fs)))
def rAddS : R2 := fun x y H Q => ∃ i j, x = .str i ∧ y = .str j ∧ i.length + j.length ≤ sizeLine ∧ Q (.str (i ++ j)) H
def rInC : R2 := fun x y H Q => ∃ (c : Nat) (z : Str), x = .str ⟨#[c]⟩ ∧ y = .str z ∧ Q (.bl (decide (c ∈ z.cps.toList))) H
abbrev RL := List V → Hp → VK → Prop
def rLenQ (K : PySem.W.Frag) : RL := fun xs H Q => ∃ p ys, xs = [.ref p] ∧ (SqL K H p ys ∨ SqT K H p ys) ∧ Q (.int ys.length) H
def rLenS : RL := fun xs H Q => ∃ z, xs = [.str z] ∧ z.length ≤ sizeLine ∧ Q (.int z.length) H
def rMaxI : RL := fun xs H Q => ∃ i j, xs = [.int i, .int j] ∧ Q (.int (if j > i then j else i)) H
def rIntI : RL := fun xs H Q => (∃ i, xs = [.int i] ∧ Q (.int i) H) ∨ ∃ k, xs = [.bl k] ∧ Q (.int (if k then 1 else 0)) H
def rStrI : RL := fun xs H Q => ∃ i, xs = [.int i] ∧ i.natAbs.log2 < 1920 ∧ Q (.str (toString i)) H
def rTupOf (K : PySem.W.Frag) : RL := fun xs H Q => ∃ p ys, xs = [.ref p] ∧ ((SqL K H p ys ∧ ∀ l, H l = none → Q (.ref l) (upd H l (.tup ys))) ∨ (SqT K H p ys ∧ Q (.ref p) H))
def rLstOf (K : PySem.W.Frag) : RL := fun xs H Q => ∃ p ys, xs = [.ref p] ∧ (SqL K H p ys ∨ SqT K H p ys) ∧ ∀ l, H l = none → Q (.ref l) (upd H l (.lst ys))
/-! ### rules, the written part by its name -/
section
variable {X : Cx} {a b e o : Expr} {es : List Expr} {ta tb te to : TE} {t : TA} {pos apos p : Pos} {f x m : Str}
theorem qf (K : PySem.W.Frag) (he : PE X e ta) (hb : attributeBase e f X.env (eval e X.env) = eval e X.env := by rfl) (hK : X.K = K := by rfl) : PE X (.Attribute e f pos) (tFld K ta f) := by
  subst hK
  exact pe_fld he hb
theorem qsf (K : PySem.W.Frag) {value : Expr} {tv : TE} {pos' : Pos} (ha : PE X o ta) (hv : PE X value tv) (hs : swapsWith value (some (.Attribute o f pos')) pos.line X.env = pure false := by rfl) (hK : X.K = K := by rfl) : PS X (.Assign [.Attribute o f pos'] value pos) (sFld K ta tv f) := by
  subst hK
  exact ps_fld ha hv hs
theorem qaf (K : PySem.W.Frag) {value : Expr} {tv : TE} {op : Operator} {rd : V → V → Hp → VK → Prop} {tpos : Pos} (hop : InOp X op rd) (ha : PE X o ta) (hv : PE X value tv) (hK : X.K = K := by rfl) : PS X (.AugAssign (.Attribute o f tpos) op value pos) (sFldAug K ta tv rd f) := by
  subst hK
  exact ps_fldaug ha hv hop
theorem qil (K : PySem.W.Frag) (ha : PE X a ta) (hb : PE X b tb) (hs : PlainIx b := by exact fun _ _ => rfl) (hK : X.K = K := by rfl) : PE X (.Subscript a b pos) (tOp (rIxL K) ta tb) := by
  subst hK
  exact pe_ix ix_list ha hb hs
theorem qit (K : PySem.W.Frag) (ha : PE X a ta) (hb : PE X b tb) (hs : PlainIx b := by exact fun _ _ => rfl) (hK : X.K = K := by rfl) : PE X (.Subscript a b pos) (tOp (rIxT K) ta tb) := by
  subst hK
  exact pe_ix ix_tup ha hb hs
theorem qis (ha : PE X a ta) (hb : PE X b tb) (hs : PlainIx b := by exact fun _ _ => rfl) : PE X (.Subscript a b pos) (tOp rIxS ta tb) := pe_ix ix_str ha hb hs
theorem qin (K : PySem.W.Frag) (hK : X.K = K := by rfl) : OpR X (compareOp .In) (rIn K false) := by
  subst hK
  exact op_in_seq
theorem qni (K : PySem.W.Frag) (hK : X.K = K := by rfl) : OpR X (compareOp .NotIn) (rIn K true) := by
  subst hK
  exact op_notIn_seq
theorem qinC : OpR X (compareOp .In) rInC := op_in_sign
theorem qaddS : OpR X (binaryOp .Add) rAddS := op_add_str
theorem qeqD (K : PySem.W.Frag) (hu : X.A.units + 64 < cLine) (hK : X.K = K := by rfl) : OpR X (compareOp .Eq) (rEqD K) := by
  subst hK
  exact op_eqD hu
theorem qneD (K : PySem.W.Frag) (hu : X.A.units + 64 < cLine) (hK : X.K = K := by rfl) : OpR X (compareOp .NotEq) (rNeD K) := by
  subst hK
  exact op_neD hu
theorem qcatT (K : PySem.W.Frag) (hK : X.K = K := by rfl) : OpR X (binaryOp .Add) (rCatT K) := by
  subst hK
  exact op_catT
/-- a comparison as a value, as a test -/
theorem qcmp {op : CmpOp} {r : R2} (ho : OpR X (compareOp op) r) (ha : PE X a ta) (hb : PE X b tb) (hm : behindInMarks op b = false := by first | exact nomark _ | rfl) : PE X (.Compare a [op] [b] pos) (tOp r ta tb) := pe_cmpR ho ha hb hm
theorem qtst {op : CmpOp} {r : R2} (ho : OpR X (compareOp op) r) (ha : PE X a ta) (hb : PE X b tb) (hm : behindInMarks op b = false := by first | exact nomark _ | rfl) : PT X (.Compare a [op] [b] pos) (tTest (tOp r ta tb)) := pt_cmpR ho ha hb hm
theorem qgt (K : PySem.W.Frag) {es : List Expr} {k : Nat} {t : TGs} {n : Nat} (h : PGs X es t) (hc : X.calm = true := by rfl) (hn : (assignEach es X.env).length = n := by rfl) (hst : (assignEach es X.env).findIdx? (·.1) = none := by rfl) (hK : X.K = K := by rfl) : PG X (.Tuple es k pos) (gTup K n t) := by
  subst hK
  exact pg_tup hc h hn hst
theorem qbm (K : PySem.W.Frag) (hm : MtR X "list.append" rAppend) (ho : PE X o to) (ha : PA X [e] t)
    (hbase : attributeBase o "append" X.env (eval o X.env) = eval o X.env := by rfl)
    (hfew : ((backTo p (starEach [e] X.env)).all (fun x => !x.1) && (backToKw p (keywordEach [] X.env)).all (fun x => x.1.isSome)
      && decide ([e].length + ([] : List Keyword).length + (if ([] : List Keyword).isEmpty then 0 else 1) < 30)) = true := by rfl)
    (hline : (apos.endLine == p.line) = true := by rfl) (hs : starEach [e] X.env = (false, eval e X.env) :: starEach [] X.env := by rfl) (hplain : (backTo p (starEach [] X.env)).any (·.1) = false := by rfl) (hK : X.K = K := by rfl) :
    PE X (.Call (.Attribute o "append" apos) [e] [] p) (tBM K "list" rAppend to t) := by
  subst hK
  exact pe_bm PySem.F.plainAttrs_list PySem.F.slot_list_append PySem.F.type_list_append hm ho ha hbase hfew hline hs hplain
section
variable {P : Program} {w : World} {K : PySem.W.Frag} {mg : Str → Option Value} {base : Heap} {k : Nat} {ps : List Str} {sp : Sp}
theorem qc (T : Txt K mg) (hx : x ∈ gloN) (O : Ok P w K mg base k (He.ga K x) ps sp) (hr : Room k X.A) (ha : PA X (e :: es) t) (hg : Gl X x := by rfl) (h1 : X.prog = P := by rfl) (h2 : X.w = w := by rfl) (hK : X.K = K := by rfl) (h3 : X.mg = mg := by rfl) (h4 : X.base = base := by rfl)
    (hdb : (x == ("__debug__" : Str)) = false := by decide) (he : starEach (e :: es) X.env = (false, eval e X.env) :: starEach es X.env := by rfl) (hpl : (backTo pos (starEach es X.env)).any (·.1) = false := by rfl) : PE X (.Call (.Name x p) (e :: es) [] pos) (tCl sp t) := by
  subst h1 h2 hK h3 h4
  obtain ⟨fd, F, b⟩ := O.ex
  refine ⟨fun pins s σ H Q I h => (pe_call F hr hg (T.glo x hx) O.kp b .nil pass0 ha hdb he hpl).run pins s σ H Q I ?_⟩
  unfold tCall
  simp only [List.append_nil]
  exact h
theorem qm (T : Txt K mg) (hx : m ∈ methN) (O : Ok P w K mg base k (mth K m) ps sp) (hr : Room k X.A) (ho : PE X o to) (ha : PA X (e :: es) t) (h1 : X.prog = P := by rfl) (h2 : X.w = w := by rfl) (hK : X.K = K := by rfl) (h3 : X.mg = mg := by rfl) (h4 : X.base = base := by rfl) {pl : Sem Bool}
    (hst : starEach (e :: es) X.env = (false, eval e X.env) :: starEach es X.env := by rfl) (hpl : (backTo pos (starEach es X.env)).any (·.1) = false := by rfl)
    (ht : eval (.Call (.Attribute o m apos) (e :: es) [] pos) X.env = (do
      let ov ← eval o X.env
      standAt apos.atName
      let (f, first) ← holding [ov] (getMethod ov m pl)
      callWith pos f first (backTo pos (starEach (e :: es) X.env)) (backToKw pos (keywordEach [] X.env))) := by rfl) : PE X (.Call (.Attribute o m apos) (e :: es) [] pos) (tMt K sp m to t) := by
  subst h1 h2 hK h3 h4
  obtain ⟨fd, F, b⟩ := O.ex
  refine ⟨fun pins s σ H Q I h => (pe_meth ho T.cl (T.meth m hx) F hr b .nil pass0 ha hst hpl ht).run pins s σ H Q I ?_⟩
  unfold tMeth
  simp only [List.append_nil]
  exact h
theorem qm0 (T : Txt K mg) (hx : m ∈ methN) (O : Ok P w K mg base k (mth K m) ps sp) (hr : Room k X.A) (ho : PE X o to) (h1 : X.prog = P := by rfl) (h2 : X.w = w := by rfl) (hK : X.K = K := by rfl) (h3 : X.mg = mg := by rfl) (h4 : X.base = base := by rfl) {pl : Sem Bool}
    (ht : eval (.Call (.Attribute o m apos) [] [] pos) X.env = (do
      let ov ← eval o X.env
      standAt apos.atName
      let (f, first) ← holding [ov] (getMethod ov m pl)
      callWith pos f first (backTo pos (starEach [] X.env)) (backToKw pos (keywordEach [] X.env))) := by rfl) : PE X (.Call (.Attribute o m apos) [] [] pos) (tMt K sp m to tNil) := by
  subst h1 h2 hK h3 h4
  obtain ⟨fd, F, b⟩ := O.ex
  refine ⟨fun pins s σ H Q I h => (pe_meth0 ho T.cl (T.meth m hx) F hr b .nil pass0 ht).run pins s σ H Q I ?_⟩
  unfold tMeth
  simp only [List.append_nil]
  exact h
end
end
/-! ### one step of a reading -/
section
variable {σ : L2.St} {H : Hp} {D : Ends} {x y v : V} {Q : VK} {ta tb te tv : TE} {t u : TS} {c c' : TT} {tl : TA} {i j : Int} {k : Nat}
theorem rd_seq (q : t { D with nx := u D } σ H) : tSeq t u D σ H := q
theorem rd_asg {g : TG} (q : te σ H fun x H1 => g x σ H1 D.nx) : tAsg te g D σ H := q
theorem rd_name {Q : L2.St → Hp → Prop} (q : Q (σ.set k (some v)) H) : gName k v σ H Q := q
theorem rd_op {r : R2} (q : ta σ H fun x H1 => tb σ H1 fun y H2 => r x y H2 Q) : tOp r ta tb σ H Q := q
theorem rd_var (h : σ[k]? = some (some v)) (q : Q v H) : tVar k σ H Q := ⟨v, h, q⟩
theorem rd_c (q : Q v H) : tC v σ H Q := q
theorem rd_rI0 {g : Int → Int → V} (q : Q (g i j) H) : rI0 g (.int i) (.int j) H Q := ⟨i, j, rfl, rfl, q⟩
theorem rd_rI {C : Int → Int → Prop} {g : Int → Int → V} (c : C i j) (q : Q (g i j) H) : rI C g (.int i) (.int j) H Q := ⟨i, j, rfl, rfl, c, q⟩
theorem rd_eq (s : scal x y = true) (q : Q (.bl (decide (x = y))) H) : rEq x y H Q := ⟨s, q⟩
theorem rd_ne (s : scal x y = true) (q : Q (.bl (!decide (x = y))) H) : rNe x y H Q := ⟨s, q⟩
theorem rd_test {Q : Bool → Hp → Prop} (q : te σ H fun x H' => ∃ k, x = .bl k ∧ Q k H') : tTest te σ H Q := q
theorem rd_tB {Q : Bool → Hp → Prop} (q : te σ H fun x H' => ∃ k, x = .bl k ∧ Q k H') : tB te σ H Q := q
theorem rd_k {b : Bool} {Q : Bool → Prop} (q : Q b) : ∃ k, V.bl b = V.bl k ∧ Q k := ⟨b, rfl, q⟩
theorem rd_if (q : c σ H fun b H1 => if b = true then t D σ H1 else u D σ H1) : tIfS c t u D σ H := q
theorem rd_drop (q : te σ H fun _ H1 => D.nx σ H1) : tDrop te D σ H := q
theorem rd_ret (q : te σ H D.rt) : tRet te D σ H := q
theorem rd_retN (q : D.rt .non H) : tRetN D σ H := q
theorem rd_next (q : D.nx σ H) : tNext D σ H := q
theorem rd_brk (q : D.bk σ H) : tBreak D σ H := q
theorem rd_aug {n : Nat} {ti : TIp} (h : σ[n]? = some (some x)) (q : te σ H fun y H1 => ti x y H1 fun z H2 => D.nx (σ.set n (some z)) H2) : tAug n te ti D σ H := ⟨x, h, q⟩
theorem rd_ipI {f : Int → Int → Int} (q : Q (.int (f i j)) H) : ipI f (.int i) (.int j) H Q := ⟨i, j, rfl, rfl, q⟩
theorem rd_cons {Q : List V → Hp → Prop} (q : ta σ H fun x H1 => tl σ H1 fun xs H2 => Q (x :: xs) H2) : tCons ta tl σ H Q := q
theorem rd_nil {Q : List V → Hp → Prop} (q : Q [] H) : tNil σ H Q := q
theorem rd_cl {sp : Sp} (q : tl σ H fun vs H1 => sp vs H1 Q E0) : tCl sp tl σ H Q := q
theorem rd_cb {r : List V → Hp → VK → Prop} (q : tl σ H fun vs H1 => r vs H1 Q) : tCB r tl σ H Q := q
def NewT (xs : List V) (H1 : Hp) (Q : VK) : Prop := xs.length ≤ sizeLine ∧ ∀ p, H1 p = none → Q (.ref p) (upd H1 p (.tup xs))
def NewL (xs : List V) (H1 : Hp) (Q : VK) : Prop := xs.length ≤ sizeLine ∧ ∀ p, H1 p = none → Q (.ref p) (upd H1 p (.lst xs))
theorem rd_tup (q : tl σ H fun xs H1 => NewT xs H1 Q) : tTup tl σ H Q := q
theorem rd_lst (q : tl σ H fun xs H1 => NewL xs H1 Q) : tLst tl σ H Q := q
theorem rd_not {Q : Bool → Hp → Prop} (q : c σ H fun b H1 => Q (!b) H1) : tNot c σ H Q := q
theorem rd_notV (q : ta σ H fun x H1 => ∃ c, x = .bl c ∧ Q (.bl (!c)) H1) : tNotV ta σ H Q := q
theorem rd_and {Q : Bool → Hp → Prop} (q : c σ H fun b H1 => if b = true then c' σ H1 Q else Q false H1) : tAnd c c' σ H Q := q
theorem rd_or {Q : Bool → Hp → Prop} (q : c σ H fun b H1 => if b = true then Q true H1 else c' σ H1 Q) : tOr c c' σ H Q := q
theorem rd_andV (q : ta σ H fun x H1 => ∃ c, x = .bl c ∧ if c = true then tb σ H1 Q else Q (.bl false) H1) : tAndV ta tb σ H Q := q
theorem rd_orV (q : ta σ H fun x H1 => ∃ c, x = .bl c ∧ if c = true then Q (.bl true) H1 else tb σ H1 Q) : tOrV ta tb σ H Q := q
theorem rd_add (q : Q (.int (i + j)) H) : rAdd (.int i) (.int j) H Q := ⟨i, j, rfl, rfl, q⟩
theorem rd_max (q : Q (.int (if j > i then j else i)) H) : rMaxI [.int i, .int j] H Q := ⟨i, j, rfl, q⟩
theorem rd_int (q : Q (.int i) H) : rIntI [.int i] H Q := .inl ⟨i, rfl, q⟩
theorem rd_un {r : V → Hp → VK → Prop} (q : ta σ H fun x H1 => r x H1 Q) : tUn r ta σ H Q := q
theorem rd_gtup {K : PySem.W.Frag} {n : Nat} {g : TGs} {Q : L2.St → Hp → Prop} (q : ∃ a xs, v = .ref a ∧ SqT K H a xs ∧ xs.length = n ∧ g xs σ H Q) : gTup K n g v σ H Q := q
theorem rd_gtup2 {K : PySem.W.Frag} {n : Nat} {g : TGs} {Q : L2.St → Hp → Prop} {p : Addr} {xs : List V} (h : H p = some (.tup xs)) (hn : xs.length = n) (q : g xs σ H Q) : gTup K n g (.ref p) σ H Q := ⟨p, xs, rfl, .inl (.inl h), hn, q⟩
theorem rd_newT {xs : List V} (q : ∀ p H', H p = none → Ex H H' → H' p = some (.tup xs) → Q (.ref p) H') (hl : xs.length ≤ sizeLine := by exact Nat.le_of_ble_eq_true rfl) : NewT xs H Q := ⟨hl, fun p hp => q p _ hp (Ex.new hp) upd_same⟩
theorem rd_newL {xs : List V} (q : ∀ p H', H p = none → Ex H H' → H' p = some (.lst xs) → Q (.ref p) H') (hl : xs.length ≤ sizeLine := by exact Nat.le_of_ble_eq_true rfl) : NewL xs H Q := ⟨hl, fun p hp => q p _ hp (Ex.new hp) upd_same⟩
theorem rd_catT {K : PySem.W.Frag} {a b : Addr} {xs ys : List V} (h1 : SqT K H a xs) (h2 : SqT K H b ys) (hx : xs ≠ []) (hz : xs.length + ys.length ≤ sizeLine) (hy : ys ≠ []) (q : ∀ p H', H p = none → Ex H H' → H' p = some (.tup (xs ++ ys)) → Q (.ref p) H') : rCatT K (.ref a) (.ref b) H Q :=
  ⟨a, b, xs, ys, rfl, rfl, h1, h2, hx, hz, fun e => absurd e hy, fun _ p hp => q p _ hp (Ex.new hp) upd_same⟩
theorem rd_cat {a b : Addr} {xs ys : List V} (h1 : H a = some (.lst xs)) (h2 : H b = some (.lst ys)) (hz : xs.length + ys.length ≤ sizeLine) (q : ∀ p H', H p = none → Ex H H' → H' p = some (.lst (xs ++ ys)) → Q (.ref p) H') : rCat (.ref a) (.ref b) H Q :=
  ⟨a, b, xs, ys, rfl, rfl, h1, h2, hz, fun p hp => q p _ hp (Ex.new hp) upd_same⟩
theorem rd_tupL {K : PySem.W.Frag} {a : Addr} {xs : List V} (h : SqL K H a xs) (q : ∀ p H', H p = none → Ex H H' → H' p = some (.tup xs) → Q (.ref p) H') : rTupOf K [.ref a] H Q := ⟨a, xs, rfl, .inl ⟨h, fun p hp => q p _ hp (Ex.new hp) upd_same⟩⟩
theorem rd_lstOf {K : PySem.W.Frag} {a : Addr} {xs : List V} (h : SqL K H a xs) (q : ∀ p H', H p = none → Ex H H' → H' p = some (.lst xs) → Q (.ref p) H') : rLstOf K [.ref a] H Q := ⟨a, xs, rfl, .inl h, fun p hp => q p _ hp (Ex.new hp) upd_same⟩
/-- l.append(v), told where l's place and v are known -/
theorem rd_app {l : Addr} {xs : List V} (h : H l = some (.lst xs)) (hz : xs.length < sizeLine) (q : Q .non (upd H l (.lst (xs ++ [v])))) : rAppend (.ref l) [v] H Q := ⟨l, xs, v, rfl, rfl, h, hz, q⟩
theorem rd_bm {K : PySem.W.Frag} {r : V → List V → Hp → VK → Prop} {n : Nat} {l : Addr} {xs : List V} (hs : σ[n]? = some (some (.ref l))) (h : H l = some (.lst xs)) (q : tl σ H fun vs H2 => r (.ref l) vs H2 Q) : tBM K "list" r (tVar n) tl σ H Q := ⟨_, hs, .inl ⟨rfl, _, .inl (.inl h)⟩, q⟩
theorem rd_gcons {g : TG} {g' : TGs} {vs : List V} {Q : L2.St → Hp → Prop} (q : g v σ H fun σ' H' => g' vs σ' H' Q) : gCons g g' (v :: vs) σ H Q := ⟨v, vs, rfl, q⟩
theorem rd_gnil {Q : L2.St → Hp → Prop} (q : Q σ H) : gNil [] σ H Q := ⟨rfl, q⟩
theorem rd_gsub {s : TSet} {Q : L2.St → Hp → Prop} (q : ta σ H fun o H1 => tb σ H1 fun i H2 => s o i v H2 fun H3 => Q σ H3) : gSub ta tb s v σ H Q := q
theorem rd_ixL {K : PySem.W.Frag} {a : Addr} {xs : List V} (h : SqL K H a xs) (e : atI xs i = some v) (q : Q v H) : rIxL K (.ref a) (.int i) H Q := ⟨a, xs, i, v, rfl, rfl, h, e, q⟩
theorem rd_ixT {K : PySem.W.Frag} {a : Addr} {xs : List V} (h : SqT K H a xs) (e : atI xs i = some v) (q : Q v H) : rIxT K (.ref a) (.int i) H Q := ⟨a, xs, i, v, rfl, rfl, h, e, q⟩
theorem rd_ixS {z : Str} {n : Nat} (hz : z.length ≤ sizeLine) (e : atI z.cps.toList i = some n) (q : Q (.str ⟨#[n]⟩) H) : rIxS (.str z) (.int i) H Q := ⟨z, i, n, rfl, rfl, hz, e, q⟩
theorem rd_inT {K : PySem.W.Frag} {neg : Bool} {a : Addr} {xs : List V} (h : SqT K H a xs) (hx : flatV x = true) (hf : xs.all flatV = true) (q : Q (.bl (if neg then !inV x xs else inV x xs)) H) : rIn K neg x (.ref a) H Q := ⟨a, xs, rfl, .inr h, hx, hf, q⟩
theorem rd_inL {K : PySem.W.Frag} {neg : Bool} {a : Addr} {xs : List V} (h : SqL K H a xs) (hx : flatV x = true) (hf : xs.all flatV = true) (q : Q (.bl (if neg then !inV x xs else inV x xs)) H) : rIn K neg x (.ref a) H Q := ⟨a, xs, rfl, .inl h, hx, hf, q⟩
theorem rd_inC {n : Nat} {z : Str} (q : Q (.bl (decide (n ∈ z.cps.toList))) H) : rInC (.str ⟨#[n]⟩) (.str z) H Q := ⟨n, z, rfl, rfl, q⟩
theorem rd_addS {a b : Str} (hz : a.length + b.length ≤ sizeLine) (q : Q (.str (a ++ b)) H) : rAddS (.str a) (.str b) H Q := ⟨a, b, rfl, rfl, hz, q⟩
theorem rd_lenL {K : PySem.W.Frag} {a : Addr} {xs : List V} (h : SqL K H a xs) (q : Q (.int xs.length) H) : rLenQ K [.ref a] H Q := ⟨a, xs, rfl, .inl h, q⟩
theorem rd_lenT {K : PySem.W.Frag} {a : Addr} {xs : List V} (h : SqT K H a xs) (q : Q (.int xs.length) H) : rLenQ K [.ref a] H Q := ⟨a, xs, rfl, .inr h, q⟩
theorem rd_lenS {z : Str} (hz : z.length ≤ sizeLine) (q : Q (.int z.length) H) : rLenS [.str z] H Q := ⟨z, rfl, hz, q⟩
theorem rd_fld {K : PySem.W.Frag} {f : Str} (q : ta σ H fun x H1 => fldRest K f Q x H1) : tFld K ta f σ H Q := q
theorem rd_fldset {K : PySem.W.Frag} {f : Str} (q : tv σ H fun y H1 => ta σ H1 fun x H2 => setRest K f D.nx σ y x H2) : sFld K ta tv f D σ H := q
theorem rd_mt0 {K : PySem.W.Frag} {sp : Sp} {m : Str} (q : ta σ H fun x H1 => mtRest K sp m tl σ Q x H1) : tMt K sp m ta tl σ H Q := q
theorem ift {A B : Prop} {b : Bool} (h : b = true) (q : A) : if b = true then A else B := by rw [if_pos h]; exact q
theorem iff' {A B : Prop} {b : Bool} (h : b = false) (q : B) : if b = true then A else B := by rw [if_neg (by rw [h]; exact Bool.false_ne_true)]; exact q
theorem dT {a b : Str} (h : a = b) : decide (V.str a = V.str b) = true := decide_eq_true (congrArg V.str h)
theorem dF {a b : Str} (h : a ≠ b) : decide (V.str a = V.str b) = false := decide_eq_false fun e => h (V.str.inj e)
theorem nT {a b : Str} (h : a ≠ b) : (!decide (V.str a = V.str b)) = true := by rw [dF h]; rfl
theorem nF {a b : Str} (h : a = b) : (!decide (V.str a = V.str b)) = false := by rw [dT h]; rfl
theorem inV_strs {a : Str} : ∀ l : List Str, inV (.str a) (l.map V.str) = decide (a ∈ l)
  | [] => by simp [inV]
  | b :: l => by
    have ih := inV_strs (a := a) l
    unfold inV at ih ⊢
    rw [List.map_cons, List.any_cons, ih]
    by_cases e : a = b
    · subst e; simp [eqV]
    · have e' : (b == a) = false := beq_eq_false_iff_ne.mpr fun q => e q.symm
      simp [eqV, e, e']
theorem flat_strs : ∀ l : List Str, (l.map V.str).all flatV = true
  | [] => rfl
  | b :: l => by rw [List.map_cons, List.all_cons, flat_strs l]; rfl
end
/-! ### the reader -/
structure Rp where
  r : Addr
  dx : Addr
  ra : Addr
  all : List Str
def rf (ra : Addr) (i o : Nat) (sa : Addr) : List (Str × V) := [("row", .ref ra), ("at", .int i), ("open_count", .int o), ("scope", .ref sa)]
theorem rf_row {ra sa : Addr} {i o : Nat} : (rf ra i o sa).lookup ("row" : Str) = some (.ref ra) := by rfl
theorem rf_at {ra sa : Addr} {i o : Nat} : (rf ra i o sa).lookup ("at" : Str) = some (.int i) := by
  have h1 : (("at" : Str) == "row") = false := by decide +kernel
  simp only [rf, List.lookup, h1, beq_self_eq_true]
theorem rf_op {ra sa : Addr} {i o : Nat} : (rf ra i o sa).lookup ("open_count" : Str) = some (.int o) := by
  have h1 : (("open_count" : Str) == "row") = false := by decide +kernel
  have h2 : (("open_count" : Str) == "at") = false := by decide +kernel
  simp only [rf, List.lookup, h1, h2, beq_self_eq_true]
theorem rf_sc {ra sa : Addr} {i o : Nat} : (rf ra i o sa).lookup ("scope" : Str) = some (.ref sa) := by
  have h1 : (("scope" : Str) == "row") = false := by decide +kernel
  have h2 : (("scope" : Str) == "at") = false := by decide +kernel
  have h3 : (("scope" : Str) == "open_count") = false := by decide +kernel
  simp only [rf, List.lookup, h1, h2, h3, beq_self_eq_true]
theorem rf_no {ra sa : Addr} {i o : Nat} {m : Str} (h : m ∉ noatN) : (rf ra i o sa).lookup m = none := by
  have e : noatN = (["row", "at", "open_count", "scope"] : List Str) := rfl
  rw [e] at h
  simp only [List.mem_cons, List.not_mem_nil, or_false, not_or] at h
  obtain ⟨h1, h2, h3, h4⟩ := h
  simp only [rf, List.lookup, beq_eq_false_iff_ne.mpr h1, beq_eq_false_iff_ne.mpr h2, beq_eq_false_iff_ne.mpr h3, beq_eq_false_iff_ne.mpr h4]
theorem put_at {ra sa : Addr} {i o j : Nat} : putF "at" (.int j) (rf ra i o sa) = rf ra j o sa := by
  have h1 : ¬ (("row" : Str) = "at") := by decide +kernel
  simp only [rf, putF, if_neg h1, if_true]
theorem put_op {ra sa : Addr} {i o j : Nat} : putF "open_count" (.int j) (rf ra i o sa) = rf ra i j sa := by
  have h1 : ¬ (("row" : Str) = "open_count") := by decide +kernel
  have h2 : ¬ (("at" : Str) = "open_count") := by decide +kernel
  simp only [rf, putF, if_neg h1, if_neg h2, if_true]
theorem put_sc {ra sa sb : Addr} {i o : Nat} : putF "scope" (.ref sb) (rf ra i o sa) = rf ra i o sb := by
  have h1 : ¬ (("row" : Str) = "scope") := by decide +kernel
  have h2 : ¬ (("at" : Str) = "scope") := by decide +kernel
  have h3 : ¬ (("open_count" : Str) = "scope") := by decide +kernel
  simp only [rf, putF, if_neg h1, if_neg h2, if_neg h3, if_true]
/-- the tokens as they stand -/
def RowAt (H : Hp) (ra : Addr) (all : List Str) : Prop := ∃ xs : List V, H ra = some (.lst xs) ∧ xs.length = all.length ∧
  ∀ (i : Nat) (w : Str), all[i]? = some w → ∃ (t : Addr) (l c : Int), xs[i]? = some (V.ref t) ∧ H t = some (.tup [.str (kindOf w), .str w, .int l, .int c])
theorem RowAt.keep {H H' : Hp} {ra r : Addr} {all : List Str} (h : RowAt H ra all) (f : Fx r H H') (h1 : ra ≠ r) (h2 : ∀ xs, H r ≠ some (.tup xs)) : RowAt H' ra all := by
  obtain ⟨xs, a, b, c⟩ := h
  refine ⟨xs, f _ _ h1 a, b, fun i w e => ?_⟩
  obtain ⟨t, l, n, e1, e2⟩ := c i w e
  exact ⟨t, l, n, e1, f _ _ (fun z => h2 _ (z ▸ e2)) e2⟩
structure RSx (K : PySem.W.Frag) (R : Rp) (H : Hp) (sa : Addr) (ts : List Str) (o : Nat) (sc : List Str) : Prop where
  obj : H R.r = some (.ins (CF K) R.dx (rf R.ra (R.all.length - ts.length) o sa))
  row : RowAt H R.ra R.all
  suf : ∃ pre, R.all = pre ++ ts
  scp : H sa = some (.lst (sc.map V.str))
section
variable {K : PySem.W.Frag} {R : Rp} {H H' : Hp} {sa : Addr} {ts : List Str} {o : Nat} {sc : List Str} {w : Str}
theorem RSx.ex (h : RSx K R H sa ts o sc) (f : Ex H H') : RSx K R H' sa ts o sc := by
  obtain ⟨xs, a, b, c⟩ := h.row
  refine ⟨f _ _ h.obj, ⟨xs, f _ _ a, b, fun i w e => ?_⟩, h.suf, f _ _ h.scp⟩
  obtain ⟨t, l, n, e1, e2⟩ := c i w e
  exact ⟨t, l, n, e1, f _ _ e2⟩
theorem RSx.raNe (h : RSx K R H sa ts o sc) : R.ra ≠ R.r := by
  obtain ⟨xs, a, _⟩ := h.row
  exact ne_of a h.obj (fun e => nomatch e)
theorem RSx.saNe (h : RSx K R H sa ts o sc) : sa ≠ R.r := ne_of h.scp h.obj (fun e => nomatch e)
theorem RSx.noTup (h : RSx K R H sa ts o sc) : ∀ xs, H R.r ≠ some (.tup xs) := fun xs e => by rw [h.obj] at e; cases e
theorem RSx.noFrz (h : RSx K R H sa ts o sc) : ∀ o u, H R.r ≠ some (.frz o u) := fun xs u e => by rw [h.obj] at e; cases e
/-- the object's fields set anew -/
theorem RSx.set (h : RSx K R H sa ts o sc) {sb : Addr} {ts' : List Str} {o' : Nat} {sc' : List Str} {fs : List (Str × V)} (e : fs = rf R.ra (R.all.length - ts'.length) o' sb) (hs : ∃ pre, R.all = pre ++ ts') (hb : H sb = some (.lst (sc'.map V.str))) :
    RSx K R (upd H R.r (.ins (CF K) R.dx fs)) sb ts' o' sc' := by
  subst e
  exact ⟨upd_same, h.row.keep Fx.set h.raNe h.noTup, hs, by rw [upd_ne (ne_of hb h.obj (fun e => nomatch e))]; exact hb⟩
/-- a list of one's own changes -/
theorem RSx.mut (h : RSx K R H sa ts o sc) {l : Addr} {xs : List V} {u : HO} (hl : H l = some (.lst xs)) (h1 : l ≠ R.ra) (h2 : l ≠ sa) : RSx K R (upd H l u) sa ts o sc := by
  have hr : R.r ≠ l := ne_of h.obj hl (fun e => nomatch e)
  exact ⟨by rw [upd_ne hr]; exact h.obj, h.row.keep (r := l) Fx.set h1.symm (fun xs e => by rw [hl] at e; cases e), h.suf, by rw [upd_ne h2.symm]; exact h.scp⟩
theorem RSx.tok (h : RSx K R H sa (w :: ts) o sc) : ∃ (xs : List V) (t : Addr) (l c : Int), H R.ra = some (.lst xs) ∧ xs[R.all.length - (w :: ts).length]? = some (V.ref t) ∧ H t = some (.tup [.str (kindOf w), .str w, .int l, .int c]) := by
  obtain ⟨xs, a, b, c⟩ := h.row
  obtain ⟨pre, e⟩ := h.suf
  have e1 : R.all[R.all.length - (w :: ts).length]? = some w := by
    rw [e, List.length_append, Nat.add_sub_cancel, List.getElem?_append_right (Nat.le_refl _), Nat.sub_self] <;> rfl
  obtain ⟨t, l, n, e2, e3⟩ := c _ _ e1
  exact ⟨xs, t, l, n, a, e2, e3⟩
theorem RSx.next (h : RSx K R H sa (w :: ts) o sc) : (R.all.length - (w :: ts).length) + 1 = R.all.length - ts.length := by
  obtain ⟨pre, e⟩ := h.suf
  rw [e, List.length_append, List.length_cons]
  omega
theorem RSx.sufT (h : RSx K R H sa (w :: ts) o sc) : ∃ pre, R.all = pre ++ ts := by
  obtain ⟨pre, e⟩ := h.suf
  exact ⟨pre ++ [w], by rw [e]; simp⟩
end
def spWord (K : PySem.W.Frag) : Sp := fun vs H Q _ => ∃ R sa w ts o sc, vs = [.ref (R : Rp).r] ∧ RSx K R H sa (w :: ts) o sc ∧ Q (.str w) H
def spKind (K : PySem.W.Frag) : Sp := fun vs H Q _ => ∃ R sa w ts o sc, vs = [.ref (R : Rp).r] ∧ RSx K R H sa (w :: ts) o sc ∧ Q (.str (kindOf w)) H
section
variable {K : PySem.W.Frag} {R : Rp} {H : Hp} {sa : Addr} {ts : List Str} {o : Nat} {sc : List Str} {w : Str} {Q : VK} {σ : L2.St} {k : Nat}
theorem rd_word (h : RSx K R H sa (w :: ts) o sc) (q : Q (.str w) H) : spWord K [.ref R.r] H Q E0 := ⟨R, sa, w, ts, o, sc, rfl, h, q⟩
theorem rd_kind (h : RSx K R H sa (w :: ts) o sc) (q : Q (.str (kindOf w)) H) : spKind K [.ref R.r] H Q E0 := ⟨R, sa, w, ts, o, sc, rfl, h, q⟩
theorem rd_mt {m : Str} {sp : Sp} {t : TA} (h : RSx K R H sa ts o sc) (hm : m ∉ noatN) (q : t σ H fun vs H2 => sp (.ref R.r :: vs) H2 Q E0) : mtRest K sp m t σ Q (.ref R.r) H := ⟨R.r, R.dx, _, rfl, h.obj, rf_no hm, q⟩
variable {mg : Str → Option Value} {H' : Hp} {D : Ends}
theorem nat_row : ("row" : Str) ∈ noatN := by decide +kernel
theorem nat_at : ("at" : Str) ∈ noatN := by decide +kernel
theorem nat_op : ("open_count" : Str) ∈ noatN := by decide +kernel
theorem nat_sc : ("scope" : Str) ∈ noatN := by decide +kernel
theorem rd_row (T : Txt K mg) (h : RSx K R H sa ts o sc) (q : Q (.ref R.ra) H) : fldRest K "row" Q (.ref R.r) H := ⟨R.r, _, R.dx, _, _, rfl, h.obj, T.cl, T.noat _ nat_row, rf_row, q⟩
theorem rd_at (T : Txt K mg) (h : RSx K R H sa ts o sc) (q : Q (.int ((R.all.length - ts.length : Nat) : Int)) H) : fldRest K "at" Q (.ref R.r) H := ⟨R.r, _, R.dx, _, _, rfl, h.obj, T.cl, T.noat _ nat_at, rf_at, q⟩
theorem rd_opc (T : Txt K mg) (h : RSx K R H sa ts o sc) (q : Q (.int ((o : Nat) : Int)) H) : fldRest K "open_count" Q (.ref R.r) H := ⟨R.r, _, R.dx, _, _, rfl, h.obj, T.cl, T.noat _ nat_op, rf_op, q⟩
theorem rd_scp (T : Txt K mg) (h : RSx K R H sa ts o sc) (q : Q (.ref sa) H) : fldRest K "scope" Q (.ref R.r) H := ⟨R.r, _, R.dx, _, _, rfl, h.obj, T.cl, T.noat _ nat_sc, rf_sc, q⟩
/-- self.at += 1 -/
theorem rd_augAt (T : Txt K mg) (h : RSx K R H sa (w :: ts) o sc) (hs : σ[k]? = some (some (.ref R.r))) (q : ∀ H', Fx R.r H H' → RSx K R H' sa ts o sc → D.nx σ H') : sFldAug K (tVar k) (tC (.int 1)) rAdd "at" D σ H := by
  refine ⟨_, hs, R.r, _, R.dx, _, _, rfl, h.obj, T.cl, T.noat _ nat_at, rf_at, ?_⟩
  refine ⟨_, _, rfl, rfl, R.dx, _, h.obj, by show 4 < 1000; decide, ?_⟩
  refine q _ Fx.set (h.set ?_ h.sufT h.scp)
  rw [← h.next]
  exact put_at (j := (R.all.length - (w :: ts).length) + 1)
/-- self.open_count += 1, -= 1 -/
theorem rd_augOp (T : Txt K mg) (h : RSx K R H sa ts o sc) (hs : σ[k]? = some (some (.ref R.r))) (q : ∀ H', Fx R.r H H' → RSx K R H' sa ts (o + 1) sc → D.nx σ H') : sFldAug K (tVar k) (tC (.int 1)) rAdd "open_count" D σ H := by
  refine ⟨_, hs, R.r, _, R.dx, _, _, rfl, h.obj, T.cl, T.noat _ nat_op, rf_op, ?_⟩
  refine ⟨_, _, rfl, rfl, R.dx, _, h.obj, by show 4 < 1000; decide, ?_⟩
  exact q _ Fx.set (h.set (put_op (j := o + 1)) h.suf h.scp)
theorem rd_decOp (T : Txt K mg) (h : RSx K R H sa ts (o + 1) sc) (hs : σ[k]? = some (some (.ref R.r))) (q : ∀ H', Fx R.r H H' → RSx K R H' sa ts o sc → D.nx σ H') : sFldAug K (tVar k) (tC (.int 1)) rSub "open_count" D σ H := by
  refine ⟨_, hs, R.r, _, R.dx, _, _, rfl, h.obj, T.cl, T.noat _ nat_op, rf_op, ?_⟩
  refine ⟨_, _, rfl, rfl, R.dx, _, h.obj, by show 4 < 1000; decide, ?_⟩
  refine q _ Fx.set (h.set ?_ h.suf h.scp)
  have e : (((o + 1 : Nat) : Int) - 1) = ((o : Nat) : Int) := by omega
  rw [e]
  exact put_op
/-- self.scope = .. -/
theorem rd_setSc (T : Txt K mg) (h : RSx K R H sa ts o sc) {sb : Addr} {sc' : List Str} (hb : H sb = some (.lst (sc'.map V.str))) {nx : L2.St → Hp → Prop} (q : ∀ H', Fx R.r H H' → RSx K R H' sb ts o sc' → nx σ H') : setRest K "scope" nx σ (.ref sb) (.ref R.r) H :=
  ⟨R.r, _, R.dx, _, rfl, h.obj, T.cl, T.noat _ nat_sc, by show 4 < 1000; decide, q _ Fx.set (h.set put_sc h.suf hb)⟩
end
end Ele
end
section
set_option Elab.async false
set_option linter.all false
set_option maxRecDepth 100000
set_option maxHeartbeats 2000000
namespace Ele
open PySem PySem.Spec PyProof.Rows L2
/-! ### where the names stand -/
theorem mm_word : ("word" : Str) ∈ methN := by decide +kernel
theorem mm_kind : ("kind" : Str) ∈ methN := by decide +kernel
theorem mm_skip : ("skip" : Str) ∈ methN := by decide +kernel
theorem mm_opening : ("opening" : Str) ∈ methN := by decide +kernel
theorem mm_closed : ("closed" : Str) ∈ methN := by decide +kernel
theorem mm_next_symbol : ("next_symbol" : Str) ∈ methN := by decide +kernel
theorem mm_end : ("end" : Str) ∈ methN := by decide +kernel
theorem mm_next_term : ("next_term" : Str) ∈ methN := by decide +kernel
theorem mm_next_variable : ("next_variable" : Str) ∈ methN := by decide +kernel
theorem mm_atom : ("atom" : Str) ∈ methN := by decide +kernel
theorem mm_quantified : ("quantified" : Str) ∈ methN := by decide +kernel
theorem mm_unit : ("unit" : Str) ∈ methN := by decide +kernel
theorem mm_conjunction : ("conjunction" : Str) ∈ methN := by decide +kernel
theorem mm_disjunction : ("disjunction" : Str) ∈ methN := by decide +kernel
theorem mm_implication : ("implication" : Str) ∈ methN := by decide +kernel
theorem mm_formula : ("formula" : Str) ∈ methN := by decide +kernel
theorem mm_statement : ("statement" : Str) ∈ methN := by decide +kernel
theorem gm_word_at : ("_word_at" : Str) ∈ gloN := by decide +kernel
theorem gm_token_at : ("_token_at" : Str) ∈ gloN := by decide +kernel
theorem gm_line_end : ("_line_end" : Str) ∈ gloN := by decide +kernel
theorem gm_tokens : ("tokens" : Str) ∈ gloN := by decide +kernel
theorem gm_read_statements : ("read_statements" : Str) ∈ gloN := by decide +kernel
theorem gm_read_formula : ("read_formula" : Str) ∈ gloN := by decide +kernel
theorem gm_L_state : ("_law_state" : Str) ∈ gloN := by decide +kernel
theorem gm_L_draw : ("_law_draw" : Str) ∈ gloN := by decide +kernel
theorem gm_L_word : ("_law_word" : Str) ∈ gloN := by decide +kernel
theorem gm_L_is_word : ("_law_is_word" : Str) ∈ gloN := by decide +kernel
theorem gm_L_gap : ("_law_gap" : Str) ∈ gloN := by decide +kernel
theorem gm_L_joined : ("_law_joined" : Str) ∈ gloN := by decide +kernel
theorem gm_L_names : ("_law_names" : Str) ∈ gloN := by decide +kernel
theorem gm_L_ftree : ("_law_ftree" : Str) ∈ gloN := by decide +kernel
theorem gm_L_atom : ("_law_atom" : Str) ∈ gloN := by decide +kernel
theorem gm_L_formula : ("_law_formula" : Str) ∈ gloN := by decide +kernel
theorem gm_L_term_words : ("_law_term_words" : Str) ∈ gloN := by decide +kernel
theorem gm_L_level : ("_law_level" : Str) ∈ gloN := by decide +kernel
theorem gm_L_simple_words : ("_law_simple_words" : Str) ∈ gloN := by decide +kernel
theorem gm_L_scope_words : ("_law_scope_words" : Str) ∈ gloN := by decide +kernel
theorem gm_L_words : ("_law_words" : Str) ∈ gloN := by decide +kernel
theorem gm_L_plain_words : ("_law_plain_words" : Str) ∈ gloN := by decide +kernel
theorem gm_law : ("law" : Str) ∈ gloN := by decide +kernel
theorem gm_FormulaReader : ("FormulaReader" : Str) ∈ gloN := by decide +kernel
theorem gm_SIGNS : ("SIGNS" : Str) ∈ gloN := by decide +kernel
theorem gm_RESERVED : ("RESERVED" : Str) ∈ gloN := by decide +kernel
theorem gm_TRUE : ("TRUE" : Str) ∈ gloN := by decide +kernel
theorem fm_ValueError : ("ValueError" : Str) ∈ freeN := by decide +kernel
theorem fm_int : ("int" : Str) ∈ freeN := by decide +kernel
theorem fm_isinstance : ("isinstance" : Str) ∈ freeN := by decide +kernel
theorem fm_len : ("len" : Str) ∈ freeN := by decide +kernel
theorem fm_list : ("list" : Str) ∈ freeN := by decide +kernel
theorem fm_max : ("max" : Str) ∈ freeN := by decide +kernel
theorem fm_range : ("range" : Str) ∈ freeN := by decide +kernel
theorem fm_repr : ("repr" : Str) ∈ freeN := by decide +kernel
theorem fm_reversed : ("reversed" : Str) ∈ freeN := by decide +kernel
theorem fm_str : ("str" : Str) ∈ freeN := by decide +kernel
theorem fm_tuple : ("tuple" : Str) ∈ freeN := by decide +kernel
theorem bl_len : bootBuiltins "len" = some (.builtin "len") := by decide +kernel
theorem bl_max : bootBuiltins "max" = some (.builtin "max") := by decide +kernel
theorem bl_repr : bootBuiltins "repr" = some (.builtin "repr") := by decide +kernel
theorem bl_isinstance : bootBuiltins "isinstance" = some (.builtin "isinstance") := by decide +kernel
theorem bt_int : bootBuiltins "int" = some (.type "int") := by decide +kernel
theorem bt_str : bootBuiltins "str" = some (.type "str") := by decide +kernel
theorem bt_tuple : bootBuiltins "tuple" = some (.type "tuple") := by decide +kernel
theorem bt_list : bootBuiltins "list" = some (.type "list") := by decide +kernel
section
variable {X : Cx} {a b e o : Expr} {es : List Expr} {ta tb te to : TE} {t : TA} {pos apos p : Pos} {f x m : Str} {mg : Str → Option Value} {K0 : PySem.W.Frag}
theorem qgc {v : V} {u : Tok → Value} (h : ∃ t, mg x = some (u t)) (r : ∀ t, RelV v (u t) := by exact fun t => ⟨t, rfl⟩) (hg : Gl X x := by rfl) (h3 : X.mg = mg := by rfl) (hd : (x == ("__debug__" : Str)) = false := by decide) : PE X (.Name x pos) (tC v) := by
  subst h3
  obtain ⟨t, h⟩ := h
  exact pe_glob hg h (r t) hd
theorem qgi {n : Int} (h : ∃ t, mg x = some (.int n t)) (hg : Gl X x := by rfl) (h3 : X.mg = mg := by rfl) (hd : (x == ("__debug__" : Str)) = false := by decide) : PE X (.Name x pos) (tC (.int n)) := by
  subst h3
  obtain ⟨t, h⟩ := h
  exact pe_glob hg h ⟨t, rfl⟩ hd
theorem qgs {n : Str} (h : ∃ t, mg x = some (.str n t)) (hg : Gl X x := by rfl) (h3 : X.mg = mg := by rfl) (hd : (x == ("__debug__" : Str)) = false := by decide) : PE X (.Name x pos) (tC (.str n)) := by
  subst h3
  obtain ⟨t, h⟩ := h
  exact pe_glob hg h ⟨t, rfl⟩ hd
theorem qgr {K : PySem.W.Frag} (T : Txt K mg) (hx : x ∈ gloN) (hg : Gl X x := by rfl) (h3 : X.mg = mg := by rfl) (hd : (x == ("__debug__" : Str)) = false := by decide) : PE X (.Name x pos) (tC (.ref (He.ga K x))) := by
  subst h3
  exact pe_glob hg (T.glo x hx) rfl hd
theorem qty {K : PySem.W.Frag} {n : String} (T : Txt K mg) (hx : x ∈ freeN) (hv : bootBuiltins x = some (.type n)) (hg : Gl X x := by rfl) (h3 : X.mg = mg := by rfl) (hn : x ≠ "__name__" := by decide) (hd : (x == ("__debug__" : Str)) = false := by decide) : PE X (.Name x pos) (tC (.ty n)) := by
  subst h3
  exact pe_bltn hg (T.free x hx) hv rfl hn hd
theorem qcb {K : PySem.W.Frag} {id : String} {r : RL} (hc : CallR X (.builtin id) r) (T : Txt K mg) (hx : x ∈ freeN) (hv : bootBuiltins x = some (.builtin id)) (ha : PA X (e :: es) t) (hg : Gl X x := by rfl) (h3 : X.mg = mg := by rfl) (hn : x ≠ "__name__" := by decide) (hdb : (x == ("__debug__" : Str)) = false := by decide)
    (he : starEach (e :: es) X.env = (false, eval e X.env) :: starEach es X.env := by rfl) (hpl : (backTo pos (starEach es X.env)).any (·.1) = false := by rfl) : PE X (.Call (.Name x p) (e :: es) [] pos) (tCB r t) := by
  subst h3
  exact pe_callB hc hg (T.free x hx) hv ha hn hdb he hpl
theorem qct {K : PySem.W.Frag} {id : String} {r : RL} (hc : CallR X (.type id) r) (T : Txt K mg) (hx : x ∈ freeN) (hv : bootBuiltins x = some (.type id)) (ha : PA X (e :: es) t) (hg : Gl X x := by rfl) (h3 : X.mg = mg := by rfl) (hn : x ≠ "__name__" := by decide) (hdb : (x == ("__debug__" : Str)) = false := by decide)
    (he : starEach (e :: es) X.env = (false, eval e X.env) :: starEach es X.env := by rfl) (hpl : (backTo pos (starEach es X.env)).any (·.1) = false := by rfl) : PE X (.Call (.Name x p) (e :: es) [] pos) (tCB r t) := by
  subst h3
  exact pe_callTy hc hg (T.free x hx) hv ha hn hdb he hpl
theorem qlenQ (K : PySem.W.Frag) (hK : X.K = K := by rfl) : CallR X (.builtin "len") (rLenQ K) := by
  subst hK
  exact call_len_seq
theorem qlenS : CallR X (.builtin "len") rLenS := call_len_str
theorem qmaxI (hc : X.calm = true := by rfl) : CallR X (.builtin "max") rMaxI := call_max2 hc
theorem qintI : CallR X (.type "int") rIntI := call_int1
theorem qstrI : CallR X (.type "str") rStrI := call_str_int
theorem qtupOf (K : PySem.W.Frag) (hK : X.K = K := by rfl) : CallR X (.type "tuple") (rTupOf K) := by
  subst hK
  exact call_tuple_of
theorem qlstOf (K : PySem.W.Frag) (hK : X.K = K := by rfl) : CallR X (.type "list") (rLstOf K) := by
  subst hK
  exact call_list_of
theorem qisi (K : PySem.W.Frag) (hK : X.K = K := by rfl) : CallR X (.builtin "isinstance") (rIsi K) := by
  subst hK
  exact call_isi
theorem qpl (K : PySem.W.Frag) {tg : Expr} (h : PE X e te) (hK : X.K = K := by rfl) : PI X tg e (iList K te) := by
  subst hK
  exact pi_list h
theorem qpt (K : PySem.W.Frag) {tg : Expr} (h : PE X e te) (hK : X.K = K := by rfl) : PI X tg e (iTup K te) := by
  subst hK
  exact pi_tup h
theorem qrev (K : PySem.W.Frag) {tg : Expr} (T : Txt K mg) (h : PA X [e] t) (hg : Gl X "reversed" := by rfl) (hs : starEach [e] X.env = [(false, eval e X.env)] := by rfl) (hK : X.K = K := by rfl) (h3 : X.mg = mg := by rfl) : PI X tg (.Call (.Name "reversed" p) [e] [] pos) (iRev K t) := by
  subst hK h3
  exact pi_reversed hg (T.free _ fm_reversed) h hs
end
end Ele
end
section
set_option Elab.async false
set_option linter.all false
set_option maxRecDepth 100000
set_option maxHeartbeats 2000000
local macro_rules | `(tactic| walk_at "rd") => `(tactic| repeat (first
  | with_reducible refine' Ele.rd_seq ?_
  | with_reducible refine' Ele.rd_asg ?_
  | with_reducible refine' Ele.rd_name ?_
  | with_reducible refine' Ele.rd_op ?_
  | ((with_reducible refine' Ele.rd_var ?hv ?_); (case hv => rfl))
  | with_reducible refine' Ele.rd_c ?_
  | with_reducible refine' Ele.rd_rI0 ?_
  | ((with_reducible refine' Ele.rd_eq ?hs ?_); (case hs => rfl))
  | ((with_reducible refine' Ele.rd_ne ?hs ?_); (case hs => rfl))
  | with_reducible refine' Ele.rd_test ?_
  | with_reducible refine' Ele.rd_k ?_
  | with_reducible refine' Ele.rd_if ?_
  | with_reducible refine' Ele.rd_drop ?_
  | with_reducible refine' Ele.rd_ret ?_
  | with_reducible refine' Ele.rd_retN ?_
  | with_reducible refine' Ele.rd_next ?_
  | with_reducible refine' Ele.rd_brk ?_
  | ((with_reducible refine' Ele.rd_aug ?hs ?_); (case hs => rfl))
  | with_reducible refine' Ele.rd_ipI ?_
  | with_reducible refine' Ele.rd_cons ?_
  | with_reducible refine' Ele.rd_nil ?_
  | with_reducible refine' Ele.rd_cl ?_
  | with_reducible refine' Ele.rd_cb ?_
  | with_reducible refine' Ele.rd_tup ?_
  | with_reducible refine' Ele.rd_lst ?_
  | with_reducible refine' Ele.rd_not ?_
  | with_reducible refine' Ele.rd_notV ?_
  | with_reducible refine' Ele.rd_and ?_
  | with_reducible refine' Ele.rd_or ?_
  | with_reducible refine' Ele.rd_andV ?_
  | with_reducible refine' Ele.rd_orV ?_
  | with_reducible refine' Ele.rd_add ?_
  | with_reducible refine' Ele.rd_max ?_
  | with_reducible refine' Ele.rd_int ?_
  | with_reducible refine' Ele.rd_tB ?_
  | with_reducible refine' Ele.rd_un ?_
  | ((with_reducible refine' Ele.rd_lenL ?h ?_); (case h => exact Ele.sl_of (by assumption)))
  | ((with_reducible refine' Ele.rd_lenT ?h ?_); (case h => exact Ele.st_of (by assumption)))
  | with_reducible refine' Ele.rd_fld ?_
  | with_reducible refine' Ele.rd_mt0 ?_
  | ((with_reducible refine' Ele.rd_row ?hT ?hR ?_); (case hT => assumption); (case hR => assumption))
  | ((with_reducible refine' Ele.rd_at ?hT ?hR ?_); (case hT => assumption); (case hR => assumption))
  | ((with_reducible refine' Ele.rd_opc ?hT ?hR ?_); (case hT => assumption); (case hR => assumption))
  | ((with_reducible refine' Ele.rd_scp ?hT ?hR ?_); (case hT => assumption); (case hR => assumption))
  | ((with_reducible refine' Ele.rd_mt ?hR ?hm ?_); (case hR => assumption); (case hm => decide +kernel))
  | ((with_reducible refine' Ele.rd_word ?hR ?_); (case hR => assumption))
  | ((with_reducible refine' Ele.rd_kind ?hR ?_); (case hR => assumption))
  | ((with_reducible refine' Ele.rd_gtup2 ?h ?hn ?_); (case h => assumption); (case hn => rfl))
  | with_reducible refine' Ele.rd_gcons ?_
  | with_reducible refine' Ele.rd_gnil ?_
  | with_reducible refine' Ele.rd_gsub ?_
  | with_reducible refine' Ele.rd_fldset ?_
  ))
namespace Ele
open PySem PySem.Spec PyProof.Rows L2
def spSkip (K : PySem.W.Frag) : Sp := fun vs H Q _ => ∃ R sa w ts o sc, vs = [.ref (R : Rp).r, .str w] ∧ RSx K R H sa (w :: ts) o sc ∧ kindOf w ≠ ("end" : Str) ∧ ∀ H', Fx R.r H H' → RSx K R H' sa ts o sc → Q .non H'
def spOpening (K : PySem.W.Frag) : Sp := fun vs H Q _ => ∃ R sa w ts o sc, vs = [.ref (R : Rp).r] ∧ RSx K R H sa (w :: ts) o sc ∧ o < 40 ∧ ∀ H', Fx R.r H H' → RSx K R H' sa ts (o + 1) sc → Q .non H'
def spClosed (K : PySem.W.Frag) : Sp := fun vs H Q _ => ∃ R sa ts o sc, vs = [.ref (R : Rp).r] ∧ RSx K R H sa ts (o + 1) sc ∧ ∀ H', Fx R.r H H' → RSx K R H' sa ts o sc → Q .non H'
def spSymbol (K : PySem.W.Frag) : Sp := fun vs H Q _ => ∃ R sa f ts o sc, vs = [.ref (R : Rp).r] ∧ RSx K R H sa (f :: ts) o sc ∧ isName f = true ∧ f ∉ reserved ∧ ∀ H', Fx R.r H H' → RSx K R H' sa ts o sc → Q (.str f) H'
def spVariable (K : PySem.W.Frag) : Sp := fun vs H Q _ => ∃ R sa x ts o sc, vs = [.ref (R : Rp).r] ∧ RSx K R H sa (x :: ts) o sc ∧ x ∈ sc ∧ ∀ H', Fx R.r H H' → RSx K R H' sa ts o sc → Q (.str x) H'
def spEnd (K : PySem.W.Frag) : Sp := fun vs H Q _ => ∃ R sa ts o sc, vs = [.ref (R : Rp).r] ∧ RSx K R H sa (("" : Str) :: ts) o sc ∧ Q .non H
section
variable {K : PySem.W.Frag} {R : Rp} {H H' : Hp} {sa : Addr} {ts : List Str} {o : Nat} {sc : List Str} {w : Str}
/-- the token ahead, at the place at - 1 -/
theorem RSx.prev (h : RSx K R H sa (w :: ts) o sc) (h' : RSx K R H' sa ts o sc) : ∃ (xs : List V) (t : Addr) (l c : Int), H' R.ra = some (.lst xs) ∧ atI xs (((R.all.length - ts.length : Nat) : Int) - 1) = some (.ref t) ∧ H' t = some (.tup [.str (kindOf w), .str w, .int l, .int c]) := by
  obtain ⟨xs, a, b, c⟩ := h'.row
  obtain ⟨pre, e⟩ := h.suf
  have e1 : R.all[R.all.length - (w :: ts).length]? = some w := by
    rw [e, List.length_append, Nat.add_sub_cancel, List.getElem?_append_right (Nat.le_refl _), Nat.sub_self] <;> rfl
  obtain ⟨t, l, n, e2, e3⟩ := c _ _ e1
  refine ⟨xs, t, l, n, a, ?_, e3⟩
  have e4 : ((R.all.length - ts.length : Nat) : Int) - 1 = ((R.all.length - (w :: ts).length : Nat) : Int) := by
    rw [← h.next]
    omega
  rw [e4]
  exact atI_nat e2
theorem kind_name {f : Str} (h : isName f = true) : kindOf f = "name" := by unfold kindOf; rw [if_pos h]
theorem kind_var {f : Str} (h : isVar f = true) : kindOf f = "variable" := by
  unfold kindOf
  have e : isName f = false := by
    cases q : isName f with
    | false => rfl
    | true => rw [isVar_name q] at h; cases h
  rw [if_neg (by rw [e]; exact Bool.false_ne_true), if_pos h]
theorem kind_end : kindOf ("" : Str) = "end" := by decide +kernel
end
section
variable {P : Program} {w : World} {K : PySem.W.Frag} {mg : Str → Option Value} {base : Heap}
abbrev N_word : List Str := ["self"]
theorem sc_word : FnScope N_word ["self"] (defScope s_m_word) := ⟨rfl, rfl, rfl, by decide +kernel, rfl, by decide +kernel, by decide +kernel⟩
theorem ok_word (T : Txt K mg) (F : Fd K d_m_word) : Ok P w K mg base 1 (mth K "word") ["self"] (spWord K) := by
  refine ok_mk F sc_word (fun _ _ _ _ _ _ us hl => match us, hl with | [_], _ => rfl) (fun vs H Q E h => ?_) (fun f cdv A outer s H vs Q E hr h => ?_)
  · obtain ⟨_, _, _, _, _, _, rfl, _⟩ := h
    rfl
  obtain ⟨R, sa, w, ts, o, sc, rfl, hR, q⟩ := h
  refine ⟨_, (pss_one (ps_ret (qit K (qil K (qf K (pv 0)) (qf K (pv 0))) pe_int))), ?_⟩
  obtain ⟨xs, t, l, c, e1, e2, e3⟩ := hR.tok
  walk_at "rd"
  refine rd_ixL (sl_of e1) (atI_nat e2) ?_
  walk_at "rd"
  exact rd_ixT (i := 1) (st_of e3) (atI_nat (j := 1) rfl) q
abbrev N_kind : List Str := ["self"]
theorem sc_kind : FnScope N_kind ["self"] (defScope s_m_kind) := ⟨rfl, rfl, rfl, by decide +kernel, rfl, by decide +kernel, by decide +kernel⟩
theorem ok_kind (T : Txt K mg) (F : Fd K d_m_kind) : Ok P w K mg base 1 (mth K "kind") ["self"] (spKind K) := by
  refine ok_mk F sc_kind (fun _ _ _ _ _ _ us hl => match us, hl with | [_], _ => rfl) (fun vs H Q E h => ?_) (fun f cdv A outer s H vs Q E hr h => ?_)
  · obtain ⟨_, _, _, _, _, _, rfl, _⟩ := h
    rfl
  obtain ⟨R, sa, w, ts, o, sc, rfl, hR, q⟩ := h
  refine ⟨_, (pss_one (ps_ret (qit K (qil K (qf K (pv 0)) (qf K (pv 0))) pe_int))), ?_⟩
  obtain ⟨xs, t, l, c, e1, e2, e3⟩ := hR.tok
  walk_at "rd"
  refine rd_ixL (sl_of e1) (atI_nat e2) ?_
  walk_at "rd"
  exact rd_ixT (i := 0) (st_of e3) (atI_nat (j := 0) rfl) q
abbrev N_skip : List Str := ["self", "word"]
theorem sc_skip : FnScope N_skip ["self", "word"] (defScope s_m_skip) := ⟨rfl, rfl, rfl, by decide +kernel, rfl, by decide +kernel, by decide +kernel⟩
theorem ok_skip (T : Txt K mg) (F : Fd K d_m_skip) (O_word : Ok P w K mg base 1 (mth K "word") ["self"] (spWord K)) (O_kind : Ok P w K mg base 1 (mth K "kind") ["self"] (spKind K)) : Ok P w K mg base 2 (mth K "skip") ["self", "word"] (spSkip K) := by
  refine ok_mk F sc_skip (fun _ _ _ _ _ _ us hl => match us, hl with | [_, _], _ => rfl) (fun vs H Q E h => ?_) (fun f cdv A outer s H vs Q E hr h => ?_)
  · obtain ⟨_, _, _, _, _, _, rfl, _⟩ := h
    rfl
  obtain ⟨R, sa, w, ts, o, sc, rfl, hR, hk, q⟩ := h
  refine ⟨_, (pss_cons (ps_if (PW.pt (pw_or (qtst op_ne (qm0 T mm_word O_word (hr.mono (by omega)) (pv 0)) (pv 1)) (pw_or1 (qtst op_eq (qm0 T mm_kind O_kind (hr.mono (by omega)) (pv 0)) pe_str)))) pss_never pss_nil)
  (pss_one (qaf K in_add (pv 0) pe_int))), ?_⟩
  walk_at "rd"
  refine iff' (nF rfl) ?_
  walk_at "rd"
  refine iff' (dF hk) ?_
  walk_at "rd"
  exact rd_augAt T hR rfl fun H' f1 r1 => q H' f1 r1
abbrev N_opening : List Str := ["self"]
theorem sc_opening : FnScope N_opening ["self"] (defScope s_m_opening) := ⟨rfl, rfl, rfl, by decide +kernel, rfl, by decide +kernel, by decide +kernel⟩
theorem ok_opening (T : Txt K mg) (F : Fd K d_m_opening) : Ok P w K mg base 1 (mth K "opening") ["self"] (spOpening K) := by
  refine ok_mk F sc_opening (fun _ _ _ _ _ _ us hl => match us, hl with | [_], _ => rfl) (fun vs H Q E h => ?_) (fun f cdv A outer s H vs Q E hr h => ?_)
  · obtain ⟨_, _, _, _, _, _, rfl, _⟩ := h
    rfl
  obtain ⟨R, sa, w, ts, o, sc, rfl, hR, ho, q⟩ := h
  refine ⟨_, (pss_cons (ps_if (qtst op_eq (qf K (pv 0)) (qgi T.mOpen)) pss_never pss_nil)
  (pss_cons (qaf K in_add (pv 0) pe_int)
  (pss_one (qaf K in_add (pv 0) pe_int)))), ?_⟩
  walk_at "rd"
  refine iff' (decide_eq_false fun e => ?_) ?_
  · have e := V.int.inj e
    omega
  walk_at "rd"
  refine rd_augOp T hR rfl fun H1 f1 r1 => ?_
  exact rd_augAt T r1 rfl fun H' f2 r2 => q H' (f1.trans f2) r2
abbrev N_closed : List Str := ["self"]
theorem sc_closed : FnScope N_closed ["self"] (defScope s_m_closed) := ⟨rfl, rfl, rfl, by decide +kernel, rfl, by decide +kernel, by decide +kernel⟩
theorem ok_closed (T : Txt K mg) (F : Fd K d_m_closed) : Ok P w K mg base 1 (mth K "closed") ["self"] (spClosed K) := by
  refine ok_mk F sc_closed (fun _ _ _ _ _ _ us hl => match us, hl with | [_], _ => rfl) (fun vs H Q E h => ?_) (fun f cdv A outer s H vs Q E hr h => ?_)
  · obtain ⟨_, _, _, _, _, rfl, _⟩ := h
    rfl
  obtain ⟨R, sa, ts, o, sc, rfl, hR, q⟩ := h
  refine ⟨_, (pss_one (qaf K in_sub (pv 0) pe_int)), ?_⟩
  exact rd_decOp T hR rfl fun H1 f1 r1 => q H1 f1 r1
abbrev N_next_symbol : List Str := ["self"]
theorem sc_next_symbol : FnScope N_next_symbol ["self"] (defScope s_m_next_symbol) := ⟨rfl, rfl, rfl, by decide +kernel, rfl, by decide +kernel, by decide +kernel⟩
theorem ok_next_symbol (T : Txt K mg) (F : Fd K d_m_next_symbol) (O_word : Ok P w K mg base 1 (mth K "word") ["self"] (spWord K)) (O_kind : Ok P w K mg base 1 (mth K "kind") ["self"] (spKind K)) : Ok P w K mg base 2 (mth K "next_symbol") ["self"] (spSymbol K) := by
  refine ok_mk F sc_next_symbol (fun _ _ _ _ _ _ us hl => match us, hl with | [_], _ => rfl) (fun vs H Q E h => ?_) (fun f cdv A outer s H vs Q E hr h => ?_)
  · obtain ⟨_, _, _, _, _, _, rfl, _⟩ := h
    rfl
  obtain ⟨R, sa, w, ts, o, sc, rfl, hR, hn, hv, q⟩ := h
  refine ⟨_, (pss_cons (ps_if (PW.pt (pw_or (qtst op_ne (qm0 T mm_kind O_kind (hr.mono (by omega)) (pv 0)) pe_str) (pw_or1 (qtst (qin K) (qm0 T mm_word O_word (hr.mono (by omega)) (pv 0)) (qgr T gm_RESERVED))))) pss_never pss_nil)
  (pss_cons (qaf K in_add (pv 0) pe_int)
  (pss_one (ps_ret (qit K (qil K (qf K (pv 0)) (pe_op op_sub (qf K (pv 0)) pe_int)) pe_int))))), ?_⟩
  walk_at "rd"
  refine iff' (nF (kind_name hn)) ?_
  walk_at "rd"
  refine rd_inT (T.rs _) rfl (flat_strs _) ?_
  rw [if_neg Bool.false_ne_true, inV_strs, decide_eq_false hv]
  walk_at "rd"
  refine iff' rfl ?_
  walk_at "rd"
  refine rd_augAt T hR rfl fun H1 f1 r1 => ?_
  obtain ⟨xs, t, l, c, e1, e2, e3⟩ := hR.prev r1
  walk_at "rd"
  refine rd_ixL (sl_of e1) e2 ?_
  walk_at "rd"
  exact rd_ixT (i := 1) (st_of e3) (atI_nat (j := 1) rfl) (q H1 f1 r1)
abbrev N_next_variable : List Str := ["self"]
theorem sc_next_variable : FnScope N_next_variable ["self"] (defScope s_m_next_variable) := ⟨rfl, rfl, rfl, by decide +kernel, rfl, by decide +kernel, by decide +kernel⟩
theorem ok_next_variable (T : Txt K mg) (F : Fd K d_m_next_variable) (O_word : Ok P w K mg base 1 (mth K "word") ["self"] (spWord K)) : Ok P w K mg base 2 (mth K "next_variable") ["self"] (spVariable K) := by
  refine ok_mk F sc_next_variable (fun _ _ _ _ _ _ us hl => match us, hl with | [_], _ => rfl) (fun vs H Q E h => ?_) (fun f cdv A outer s H vs Q E hr h => ?_)
  · obtain ⟨_, _, _, _, _, _, rfl, _⟩ := h
    rfl
  obtain ⟨R, sa, w, ts, o, sc, rfl, hR, hv, q⟩ := h
  refine ⟨_, (pss_cons (ps_if (qtst (qni K) (qm0 T mm_word O_word (hr.mono (by omega)) (pv 0)) (qf K (pv 0))) pss_never pss_nil)
  (pss_cons (qaf K in_add (pv 0) pe_int)
  (pss_one (ps_ret (qit K (qil K (qf K (pv 0)) (pe_op op_sub (qf K (pv 0)) pe_int)) pe_int))))), ?_⟩
  walk_at "rd"
  refine rd_inL (sl_of hR.scp) rfl (flat_strs _) ?_
  rw [if_pos rfl, inV_strs, decide_eq_true hv]
  walk_at "rd"
  refine iff' rfl ?_
  walk_at "rd"
  refine rd_augAt T hR rfl fun H1 f1 r1 => ?_
  obtain ⟨xs, t, l, c, e1, e2, e3⟩ := hR.prev r1
  walk_at "rd"
  refine rd_ixL (sl_of e1) e2 ?_
  walk_at "rd"
  exact rd_ixT (i := 1) (st_of e3) (atI_nat (j := 1) rfl) (q H1 f1 r1)
abbrev N_end : List Str := ["self"]
theorem sc_end : FnScope N_end ["self"] (defScope s_m_end) := ⟨rfl, rfl, rfl, by decide +kernel, rfl, by decide +kernel, by decide +kernel⟩
theorem ok_end (T : Txt K mg) (F : Fd K d_m_end) (O_kind : Ok P w K mg base 1 (mth K "kind") ["self"] (spKind K)) : Ok P w K mg base 2 (mth K "end") ["self"] (spEnd K) := by
  refine ok_mk F sc_end (fun _ _ _ _ _ _ us hl => match us, hl with | [_], _ => rfl) (fun vs H Q E h => ?_) (fun f cdv A outer s H vs Q E hr h => ?_)
  · obtain ⟨_, _, _, _, _, rfl, _⟩ := h
    rfl
  obtain ⟨R, sa, ts, o, sc, rfl, hR, q⟩ := h
  refine ⟨_, (pss_one (ps_if (qtst op_ne (qm0 T mm_kind O_kind (hr.mono (by omega)) (pv 0)) pe_str) pss_never pss_nil)), ?_⟩
  walk_at "rd"
  refine iff' (nF kind_end) ?_
  exact q
end
end Ele
end
section
set_option Elab.async false
set_option linter.all false
set_option maxRecDepth 100000
set_option maxHeartbeats 2000000
namespace Ele
open PySem PySem.Spec PyProof.Rows L2
mutual
theorem PTm.flat {sc : List Str} : ∀ {n o ts d ts'}, PTm sc n o ts d ts' → flatT d = true
  | _, _, _, _, _, .var _ _ => by simp only [flatT]
  | _, _, _, _, _, .cst _ _ _ => by simp only [flatT, flatTs, Bool.and_self]
  | _, _, _, _, _, .app _ _ _ _ e f _ _ => by
    simp only [flatT, flatTs, e.flat, f.flat, Bool.and_self]
theorem PAr.flat {sc : List Str} : ∀ {n o ts d ts'}, PAr sc n o ts d ts' → flatTs d = true
  | _, _, _, _, _, .done _ => by simp only [flatTs]
  | _, _, _, _, _, .more _ b c => by
    simp only [flatTs, b.flat, c.flat, Bool.and_self]
end
theorem flat3 {k : Str} {f g : PyData} (h1 : flatT f = true) (h2 : flatT g = true) : flatT (.tuple [.str k, f, g]) = true := by
  simp only [flatT, flatTs, h1, h2, Bool.and_self]
theorem flat2 {k : Str} {f : PyData} (h1 : flatT f = true) : flatT (.tuple [.str k, f]) = true := by
  simp only [flatT, flatTs, h1, Bool.and_self]
theorem flatQ {q : Str} {f : PyData} (h : flatT f = true) : ∀ xs : List Str, flatT (quD q xs f) = true
  | [] => h
  | x :: xs => by
    show flatT (.tuple [.str q, .str x, quD q xs f]) = true
    exact flat3 (by simp only [flatT]) (flatQ h xs)
def TgF : Tg → Prop
  | .conjL _ f => flatT f = true
  | .disjL _ f => flatT f = true
  | _ => True
theorem PF.flat {n tg sc o ts h f ts'} (p : PF n tg sc o ts h f ts') : TgF tg → flatT f = true := by
  induction p with
  | eq a _ b => exact fun _ => flat3 a.flat b.flat
  | ne a _ b => exact fun _ => flat2 (flat3 a.flat b.flat)
  | al _ a _ _ => exact fun _ => flat3 a.flat (by simp only [trueD, flatT, flatTs, Bool.and_self])
  | qu _ _ _ _ _ ih => exact fun _ => flatQ (ih trivial) _
  | neg _ _ _ ih => exact fun _ => flat2 (ih trivial)
  | par _ _ _ _ ih => exact fun _ => ih trivial
  | qun _ _ ih => exact fun _ => ih trivial
  | tt _ => exact fun _ => by simp only [flatT, flatTs, Bool.and_self]
  | atm _ _ ih => exact fun _ => ih trivial
  | con _ _ i j => exact fun _ => j (i trivial)
  | cl0 _ => exact fun h => h
  | cl1 _ _ _ i j => exact fun h => j (flat3 h (i trivial))
  | dis _ _ i j => exact fun _ => j (i trivial)
  | dl0 _ => exact fun h => h
  | dl1 _ _ _ i j => exact fun h => j (flat3 h (i trivial))
  | im0 _ _ i => exact fun _ => i trivial
  | im1 _ _ _ _ i j => exact fun _ => flat3 (i trivial) (j trivial)
  | fo0 _ _ i => exact fun _ => i trivial
  | fo1 _ _ _ i j => exact fun _ => flat3 (i trivial) (j trivial)
section
variable {K : PySem.W.Frag} {R : Rp} {H H' : Hp} {sa : Addr} {ts : List Str} {o : Nat} {sc : List Str}
/-- data that the reader has made stands -/
theorem RSx.dp (h : RSx K R H sa ts o sc) (f : Fx R.r H H') {d : PyData} {v : V} (hd : flatT d = true) (q : Dp K H v d) : Dp K H' v d := dp_fx h.noTup h.noFrz f d hd q
theorem RSx.dps (h : RSx K R H sa ts o sc) (f : Fx R.r H H') {ds : List PyData} {vs : List V} (hd : flatTs ds = true) (q : DpAll K H vs ds) : DpAll K H' vs ds := dps_fx h.noTup h.noFrz f ds hd q
end
def noneSp (sp : Sp) : Prop := ∀ vs H Q E, ¬ sp vs H Q E
theorem ok_none {P : Program} {w : World} {K : PySem.W.Frag} {mg : Str → Option Value} {base : Heap} {d : He.DefD} {ps : List Str} {k : Nat} {sp : Sp} (F : Fd K d)
    (hb : ∀ (kV doc pm : Value) (an : Option Addr) (cdv ct : Value) (us : List Value), us.length = ps.length → bindArgs (PySem.W.fnOf d.name d.qual d.params d.body d.scope .none kV doc pm an cdv ct) ⟨us, []⟩ = pure (ps.zip us))
    (no : noneSp sp) : Ok P w K mg base k (He.fAd K d.at_) ps sp := by
  obtain ⟨fd, F⟩ := F
  exact ⟨⟨fd, ⟨fun vs H Q E h => absurd h (no vs H Q E), fun A outer s H args us vs Q E _ _ _ _ h => absurd h (no vs H Q E)⟩, F.bindsN hb⟩, F.kp⟩
theorem imax {i j : Nat} : (1 : Int) + (if ((j : Nat) : Int) > ((i : Nat) : Int) then ((j : Nat) : Int) else ((i : Nat) : Int)) = ((1 + max i j : Nat) : Int) := by
  split <;> omega
theorem dp2 {K : PySem.W.Frag} {H : Hp} {p : Addr} {k : Str} {v : V} {d : PyData} (h : H p = some (.tup [.str k, v])) (hv : Dp K H v d) : Dp K H (.ref p) (.tuple [.str k, d]) := .tup (st_of h) (.cons (.str _) (.cons hv .nil))
theorem dp3 {K : PySem.W.Frag} {H : Hp} {p : Addr} {k : Str} {v u : V} {d e : PyData} (h : H p = some (.tup [.str k, v, u])) (hv : Dp K H v d) (hu : Dp K H u e) : Dp K H (.ref p) (.tuple [.str k, d, e]) := .tup (st_of h) (.cons (.str _) (.cons hv (.cons hu .nil)))
def spTerm (K : PySem.W.Frag) (n : Nat) : Sp := fun vs H Q _ => ∃ R sa ts o sc d ts', vs = [.ref (R : Rp).r] ∧ RSx K R H sa ts o sc ∧ PTm sc n o ts d ts' ∧ ∀ v H', Fx R.r H H' → RSx K R H' sa ts' o sc → Dp K H' v d → Q v H'
def spF (K : PySem.W.Frag) (n : Nat) (tg : Tg) : Sp := fun vs H Q _ => ∃ R sa ts o sc h f ts', vs = [.ref (R : Rp).r] ∧ RSx K R H sa ts o sc ∧ PF n tg sc o ts h f ts' ∧ ∀ p v H', Fx R.r H H' → RSx K R H' sa ts' o sc → H' p = some (.tup [.int (h : Nat), v]) → Dp K H' v f → Q (.ref p) H'
end Ele
end
section
set_option Elab.async false
set_option linter.all false
set_option maxRecDepth 100000
set_option maxHeartbeats 2000000
local macro_rules | `(tactic| walk_at "rd") => `(tactic| repeat (first
  | with_reducible refine' Ele.rd_seq ?_
  | with_reducible refine' Ele.rd_asg ?_
  | with_reducible refine' Ele.rd_name ?_
  | with_reducible refine' Ele.rd_op ?_
  | ((with_reducible refine' Ele.rd_var ?hv ?_); (case hv => rfl))
  | with_reducible refine' Ele.rd_c ?_
  | with_reducible refine' Ele.rd_rI0 ?_
  | ((with_reducible refine' Ele.rd_eq ?hs ?_); (case hs => rfl))
  | ((with_reducible refine' Ele.rd_ne ?hs ?_); (case hs => rfl))
  | with_reducible refine' Ele.rd_test ?_
  | with_reducible refine' Ele.rd_k ?_
  | with_reducible refine' Ele.rd_if ?_
  | with_reducible refine' Ele.rd_drop ?_
  | with_reducible refine' Ele.rd_ret ?_
  | with_reducible refine' Ele.rd_retN ?_
  | with_reducible refine' Ele.rd_next ?_
  | with_reducible refine' Ele.rd_brk ?_
  | ((with_reducible refine' Ele.rd_aug ?hs ?_); (case hs => rfl))
  | with_reducible refine' Ele.rd_ipI ?_
  | with_reducible refine' Ele.rd_cons ?_
  | with_reducible refine' Ele.rd_nil ?_
  | with_reducible refine' Ele.rd_cl ?_
  | with_reducible refine' Ele.rd_cb ?_
  | with_reducible refine' Ele.rd_tup ?_
  | with_reducible refine' Ele.rd_lst ?_
  | with_reducible refine' Ele.rd_not ?_
  | with_reducible refine' Ele.rd_notV ?_
  | with_reducible refine' Ele.rd_and ?_
  | with_reducible refine' Ele.rd_or ?_
  | with_reducible refine' Ele.rd_andV ?_
  | with_reducible refine' Ele.rd_orV ?_
  | with_reducible refine' Ele.rd_add ?_
  | with_reducible refine' Ele.rd_max ?_
  | with_reducible refine' Ele.rd_int ?_
  | with_reducible refine' Ele.rd_tB ?_
  | with_reducible refine' Ele.rd_un ?_
  | ((with_reducible refine' Ele.rd_lenL ?h ?_); (case h => exact Ele.sl_of (by assumption)))
  | ((with_reducible refine' Ele.rd_lenT ?h ?_); (case h => exact Ele.st_of (by assumption)))
  | with_reducible refine' Ele.rd_fld ?_
  | with_reducible refine' Ele.rd_mt0 ?_
  | ((with_reducible refine' Ele.rd_row ?hT ?hR ?_); (case hT => assumption); (case hR => assumption))
  | ((with_reducible refine' Ele.rd_at ?hT ?hR ?_); (case hT => assumption); (case hR => assumption))
  | ((with_reducible refine' Ele.rd_opc ?hT ?hR ?_); (case hT => assumption); (case hR => assumption))
  | ((with_reducible refine' Ele.rd_scp ?hT ?hR ?_); (case hT => assumption); (case hR => assumption))
  | ((with_reducible refine' Ele.rd_mt ?hR ?hm ?_); (case hR => assumption); (case hm => decide +kernel))
  | ((with_reducible refine' Ele.rd_word ?hR ?_); (case hR => assumption))
  | ((with_reducible refine' Ele.rd_kind ?hR ?_); (case hR => assumption))
  | ((with_reducible refine' Ele.rd_gtup2 ?h ?hn ?_); (case h => assumption); (case hn => rfl))
  | with_reducible refine' Ele.rd_gcons ?_
  | with_reducible refine' Ele.rd_gnil ?_
  | with_reducible refine' Ele.rd_gsub ?_
  | with_reducible refine' Ele.rd_fldset ?_
  ))
namespace Ele
open PySem PySem.Spec PyProof.Rows L2
theorem RSx.fresh {K : PySem.W.Frag} {R : Rp} {H : Hp} {sa : Addr} {ts : List Str} {o : Nat} {sc : List Str} {l : Addr} (h : RSx K R H sa ts o sc) (hl : H l = none) : l ≠ R.r ∧ l ≠ R.ra ∧ l ≠ sa := by
  obtain ⟨xs, a, _⟩ := h.row
  exact ⟨(ne_of_none h.obj hl).symm, (ne_of_none a hl).symm, (ne_of_none h.scp hl).symm⟩
theorem kind_novar {f : Str} (h : isName f = true) : kindOf f ≠ ("variable" : Str) := by
  rw [kind_name h]
  decide +kernel
/-- between two arguments -/
def TmW (K : PySem.W.Frag) (R : Rp) (H0 : Hp) (sa l : Addr) (f : Str) (n o : Nat) (sc : List Str) (all : List PyData) (te : List Str) (m : Nat) (σ : L2.St) (H : Hp) : Prop :=
  ∃ (ys : List V) (ds r : List PyData) (ts : List Str), m = r.length ∧ σ = [some (.ref R.r), some (.str f), some (.ref l)] ∧ Fx R.r H0 H ∧ H l = some (.lst ys) ∧ DpAll K H ys ds ∧ flatTs ds = true ∧ all = ds ++ r ∧ RSx K R H sa ts o sc ∧ PAr sc n o ts r te ∧ ys.length = ds.length
theorem dps_snoc {K : PySem.W.Frag} {H : Hp} {v : V} {d : PyData} (hd : Dp K H v d) : ∀ {ys : List V} {ds : List PyData}, DpAll K H ys ds → DpAll K H (ys ++ [v]) (ds ++ [d])
  | _, _, .nil => .cons hd .nil
  | _, _, .cons a b => .cons a (dps_snoc hd b)
theorem flat_snoc {d : PyData} (hd : flatT d = true) : ∀ {ds : List PyData}, flatTs ds = true → flatTs (ds ++ [d]) = true
  | [], _ => by simp only [List.nil_append, flatTs, hd, Bool.and_self]
  | e :: ds, h => by
    simp only [flatTs, Bool.and_eq_true] at h
    simp only [List.cons_append, flatTs, h.1, flat_snoc hd h.2, Bool.and_self]
section
variable {P : Program} {w : World} {K : PySem.W.Frag} {mg : Str → Option Value} {base : Heap}
abbrev N_next_term : List Str := ["self", "symbol", "arguments"]
theorem sc_next_term : FnScope N_next_term ["self"] (defScope s_m_next_term) := ⟨rfl, rfl, rfl, by decide +kernel, rfl, by decide +kernel, by decide +kernel⟩
theorem ok_next_term {n : Nat} (T : Txt K mg) (F : Fd K d_m_next_term) (O_word : Ok P w K mg base 1 (mth K "word") ["self"] (spWord K)) (O_kind : Ok P w K mg base 1 (mth K "kind") ["self"] (spKind K)) (O_skip : Ok P w K mg base 2 (mth K "skip") ["self", "word"] (spSkip K))
    (O_opening : Ok P w K mg base 1 (mth K "opening") ["self"] (spOpening K)) (O_closed : Ok P w K mg base 1 (mth K "closed") ["self"] (spClosed K)) (O_next_symbol : Ok P w K mg base 2 (mth K "next_symbol") ["self"] (spSymbol K)) (O_next_variable : Ok P w K mg base 2 (mth K "next_variable") ["self"] (spVariable K))
    (O_next_term : Ok P w K mg base (10 + n) (mth K "next_term") ["self"] (spTerm K n)) : Ok P w K mg base (10 + n + 1) (mth K "next_term") ["self"] (spTerm K (n + 1)) := by
  refine ok_mk F sc_next_term (fun _ _ _ _ _ _ us hl => match us, hl with | [_], _ => rfl) (fun vs H Q E h => ?_) (fun f cdv A outer s H vs Q E hr h => ?_)
  · obtain ⟨_, _, _, _, _, _, _, rfl, _⟩ := h
    rfl
  obtain ⟨R, sa, ts, o, sc, d, ts', rfl, hR, hp, q⟩ := h
  refine ⟨_, (pss_cons (ps_if (qtst op_eq (qm0 T mm_kind O_kind (hr.mono (by omega)) (pv 0)) pe_str) (pss_one (ps_ret (qm0 T mm_next_variable O_next_variable (hr.mono (by omega)) (pv 0)))) pss_nil)
  (pss_cons (ps_set (i := 1) sc_next_term.nd rfl (Or.inl rfl) (qm0 T mm_next_symbol O_next_symbol (hr.mono (by omega)) (pv 0)))
  (pss_cons (ps_if (qtst op_ne (qm0 T mm_word O_word (hr.mono (by omega)) (pv 0)) pe_str) (pss_one (ps_ret (pe_tup (pa_cons (pv 1) pa_nil)))) pss_nil)
  (pss_cons (ps_expr (qm0 T mm_opening O_opening (hr.mono (by omega)) (pv 0)))
  (pss_cons (ps_set (i := 2) sc_next_term.nd rfl (Or.inl rfl) (pe_lst (pa_cons (qm0 T mm_next_term O_next_term (hr.mono (by omega)) (pv 0)) pa_nil)))
  (pss_cons (ps_while PassesOwn.never (qtst op_eq (qm0 T mm_word O_word (hr.mono (by omega)) (pv 0)) pe_str) (pss_cons (ps_if (qtst op_eq (qcb (qlenQ K) T fm_len bl_len (pa_cons (pv 2) pa_nil)) (qgi T.mArgs)) pss_never pss_nil)
  (pss_cons (qaf K in_add (pv 0) pe_int)
  (pss_one (ps_expr (qbm K mt_append (pv 2) (pa_cons (qm0 T mm_next_term O_next_term (hr.mono (by omega)) (pv 0)) pa_nil)))))))
  (pss_cons (ps_expr (qm T mm_skip O_skip (hr.mono (by omega)) (pv 0) (pa_cons pe_str pa_nil)))
  (pss_cons (ps_expr (qm0 T mm_closed O_closed (hr.mono (by omega)) (pv 0)))
  (pss_one (ps_ret (pe_op (qcatT K) (pe_tup (pa_cons (pv 1) pa_nil)) (qct (qtupOf K) T fm_tuple bt_tuple (pa_cons (pv 2) pa_nil))))))))))))), ?_⟩
  cases hp with
  | @var _ _ x _ hv hx =>
    walk_at "rd"
    refine ift (dT (kind_var hv)) ?_
    walk_at "rd"
    exact ⟨R, sa, x, _, o, sc, rfl, hR, hx, fun H' f1 r1 => q _ H' f1 r1 (.str x)⟩
  | @cst _ _ f w ts h1 h2 h3 =>
    walk_at "rd"
    refine iff' (dF (kind_novar h1)) ?_
    walk_at "rd"
    refine ⟨R, sa, f, _, o, sc, rfl, hR, h1, h2, fun H1 f1 r1 => ?_⟩
    walk_at "rd"
    refine ift (nT h3) ?_
    walk_at "rd"
    refine rd_newT fun p H2 hp x2 e2 => ?_
    exact q _ H2 (f1.ex x2) (r1.ex x2) (.tup (st_of e2) (.cons (.str _) .nil))
  | @app _ _ f w ts d ts1 r c ts2 h1 h2 h3 h4 h5 h6 h7 h8 =>
    subst h3 h7
    walk_at "rd"
    refine iff' (dF (kind_novar h1)) ?_
    walk_at "rd"
    refine ⟨R, sa, f, _, o, sc, rfl, hR, h1, h2, fun H1 f1 r1 => ?_⟩
    walk_at "rd"
    refine iff' (nF rfl) ?_
    walk_at "rd"
    refine ⟨R, sa, _, _, o, sc, rfl, r1, h4, fun H2 f2 r2 => ?_⟩
    walk_at "rd"
    refine ⟨R, sa, _, o + 1, sc, d, ts1, rfl, r2, h5, fun v H3 f3 r3 d3 => ?_⟩
    walk_at "rd"
    refine rd_newL fun l H4 hl x4 e4 => ?_
    obtain ⟨n1, n2, n3⟩ := r3.fresh hl
    walk_at "rd"
    refine ⟨TmW K R H sa l f n (o + 1) sc (d :: r) ((")" : Str) :: ts'), ⟨r.length, [v], [d], r, ts1, rfl, rfl, ((f1.trans f2).trans f3).ex x4, e4, .cons (dp_ex x4 d d3) .nil, by simp only [flatTs, h5.flat, Bool.and_self], rfl, r3.ex x4, h6, rfl⟩, ?_⟩
    rintro m σ H' ⟨ys, ds, rr, ts3, rfl, rfl, f5, hl5, d5, fl5, e5, r5, p5, z5⟩
    cases p5 with
    | @done _ _ w ts hw =>
      walk_at "rd"
      refine iff' (dF hw) ?_
      walk_at "rd"
      refine ⟨R, sa, _, _, o + 1, sc, rfl, r5, by decide +kernel, fun H6 f6 r6 => ?_⟩
      walk_at "rd"
      refine ⟨R, sa, _, o, sc, rfl, r6, fun H7 f7 r7 => ?_⟩
      have l7 : H7 l = some (.lst ys) := f7 _ _ n1 (f6 _ _ n1 hl5)
      have d7 : DpAll K H7 ys ds := r6.dps f7 fl5 (r5.dps f6 fl5 d5)
      rw [List.append_nil] at e5
      subst e5
      walk_at "rd"
      refine rd_newT fun p H8 hp8 x8 e8 => ?_
      walk_at "rd"
      refine rd_tupL (sl_of (x8 _ _ l7)) fun p9 H9 hp9 x9 e9 => ?_
      have hz : ys.length ≤ 8 := by
        rw [z5, List.length_cons]
        omega
      have hn : ys ≠ [] := fun e => by
        rw [e] at z5
        cases z5
      refine rd_catT (st_of (x9 _ _ e8)) (st_of e9) (fun e => nomatch e) (Nat.le_trans (Nat.add_le_add_left hz 1) (by decide)) hn fun p10 H10 hp10 x10 e10 => ?_
      exact q _ H10 ((((f5.trans f6).trans f7).ex x8).ex (x9.trans x10)) (((r7.ex x8).ex x9).ex x10) (.tup (st_of e10) (.cons (.str _) (dps_ex ((x8.trans x9).trans x10) _ d7)))
    | @more _ _ w ts4 d6 ts5 r6 _ hw p6 p7 =>
      subst hw
      walk_at "rd"
      refine ift (dT rfl) ?_
      refine ⟨fun σ2 H2 => ∃ m', m' < (d6 :: r6).length ∧ TmW K R H sa l f n (o + 1) sc (d :: r) ((")" : Str) :: ts') m' σ2 H2, fun _ _ h => h, ?_⟩
      walk_at "rd"
      refine iff' (decide_eq_false fun e => ?_) ?_
      · have e := V.int.inj e
        have e6 := congrArg List.length e5
        rw [List.length_append, List.length_cons, List.length_cons] at e6
        omega
      walk_at "rd"
      refine rd_augAt T r5 rfl fun H6 f6 r7 => ?_
      have l6 : H6 l = some (.lst ys) := f6 _ _ n1 hl5
      walk_at "rd"
      refine rd_bm rfl l6 ?_
      walk_at "rd"
      refine ⟨R, sa, _, o + 1, sc, d6, ts5, rfl, r7, p6, fun v8 H8 f8 r8 d8 => ?_⟩
      have l8 : H8 l = some (.lst ys) := f8 _ _ n1 l6
      have hz : ys.length ≤ 8 := by
        have e6 := congrArg List.length e5
        rw [List.length_append, List.length_cons, List.length_cons] at e6
        omega
      walk_at "rd"
      refine rd_app l8 (Nat.lt_of_le_of_lt hz (by decide)) ?_
      have nt : ∀ xs, H8 l ≠ some (.tup xs) := fun xs e => by rw [l8] at e; cases e
      have nf : ∀ o u, H8 l ≠ some (.frz o u) := fun xs u e => by rw [l8] at e; cases e
      have d9 := dps_snoc d8 (r7.dps f8 fl5 (r5.dps f6 fl5 d5))
      have fl9 := flat_snoc p6.flat fl5
      have hl0 : H l = none := Fx.free ((f1.trans f2).trans f3) (fun e => by rw [hR.obj] at e; cases e) hl n1
      refine ⟨r6.length, Nat.lt_succ_self _, ys ++ [v8], ds ++ [d6], r6, ts5, rfl, rfl, Fx.mut ((f5.trans f6).trans f8) hl0, upd_same, dps_fx nt nf Fx.set _ fl9 d9, fl9, ?_, r8.mut l8 n2 n3, p7, ?_⟩
      · rw [e5]; simp
      · rw [List.length_append, List.length_append, z5] <;> rfl
theorem none_term {P : Program} {w : World} {K : PySem.W.Frag} {mg : Str → Option Value} {base : Heap} {k : Nat} (F : Fd K d_m_next_term) : Ok P w K mg base k (mth K "next_term") ["self"] (spTerm K 0) :=
  ok_none F (fun _ _ _ _ _ _ us hl => match us, hl with | [_], _ => rfl) fun vs H Q E h => by
    obtain ⟨_, _, _, _, _, _, _, _, _, h, _⟩ := h
    cases h
end
end Ele
end
section
set_option Elab.async false
set_option linter.all false
set_option maxRecDepth 100000
set_option maxHeartbeats 2000000
namespace Ele
open PySem PySem.Spec PyProof.Rows L2
mutual
theorem PTm.len {sc : List Str} : ∀ {n o ts d ts'}, PTm sc n o ts d ts' → ts'.length < ts.length
  | _, _, _, _, _, .var _ _ => by simp only [List.length_cons]; omega
  | _, _, _, _, _, .cst _ _ _ => by simp only [List.length_cons]; omega
  | _, _, _, _, _, .app _ _ _ _ e f _ _ => by
    have h1 := e.len
    have h2 := f.len
    simp only [List.length_cons] at h2 ⊢
    omega
theorem PAr.len {sc : List Str} : ∀ {n o ts d ts'}, PAr sc n o ts d ts' → ts'.length ≤ ts.length
  | _, _, _, _, _, .done _ => Nat.le_refl _
  | _, _, _, _, _, .more _ b c => by
    have h1 := b.len
    have h2 := c.len
    simp only [List.length_cons]
    omega
end
theorem QV.len {o ts xs ts'} (h : QV o ts xs ts') : ts'.length < ts.length := by
  induction h with
  | one _ _ _ => simp only [List.length_cons]; omega
  | more _ _ _ _ ih => simp only [List.length_cons]; omega
def isLoop : Tg → Nat
  | .conjL _ _ => 0
  | .disjL _ _ => 0
  | _ => 1
theorem PF.len {n tg sc o ts h f ts'} (p : PF n tg sc o ts h f ts') : ts'.length + isLoop tg ≤ ts.length := by
  induction p with
  | eq a _ b =>
    have h1 := a.len
    have h2 := b.len
    simp only [isLoop, List.length_cons] at *
    omega
  | ne a _ b =>
    have h1 := a.len
    have h2 := b.len
    simp only [isLoop, List.length_cons] at *
    omega
  | al _ a _ _ =>
    have h1 := a.len
    simp only [isLoop, List.length_cons] at *
    omega
  | qu _ a _ _ _ ih =>
    have h1 := a.len
    simp only [isLoop, List.length_cons] at *
    omega
  | _ => simp only [isLoop, List.length_cons] at *; omega
theorem PTm.cons {sc : List Str} {n o ts d ts'} (h : PTm sc n o ts d ts') : ∃ w r, ts = w :: r := by cases h <;> exact ⟨_, _, rfl⟩
theorem QV.cons {o ts xs ts'} (h : QV o ts xs ts') : ∃ w r, ts = w :: r := by cases h <;> exact ⟨_, _, rfl⟩
structure Low (P : Program) (w : World) (K : PySem.W.Frag) (mg : Str → Option Value) (base : Heap) : Prop where
  word : Ok P w K mg base 1 (mth K "word") ["self"] (spWord K)
  kind : Ok P w K mg base 1 (mth K "kind") ["self"] (spKind K)
  skip : Ok P w K mg base 2 (mth K "skip") ["self", "word"] (spSkip K)
  opening : Ok P w K mg base 1 (mth K "opening") ["self"] (spOpening K)
  closed : Ok P w K mg base 1 (mth K "closed") ["self"] (spClosed K)
  symbol : Ok P w K mg base 2 (mth K "next_symbol") ["self"] (spSymbol K)
  variable_ : Ok P w K mg base 2 (mth K "next_variable") ["self"] (spVariable K)
  end_ : Ok P w K mg base 2 (mth K "end") ["self"] (spEnd K)
/-- the promises at n calls -/
structure At_ (P : Program) (w : World) (K : PySem.W.Frag) (mg : Str → Option Value) (base : Heap) (n : Nat) : Prop where
  term : Ok P w K mg base (10 + n) (mth K "next_term") ["self"] (spTerm K n)
  atom : Ok P w K mg base (10 + n) (mth K "atom") ["self"] (spF K n .atom)
  quant : Ok P w K mg base (10 + n) (mth K "quantified") ["self"] (spF K n .quant)
  unit : Ok P w K mg base (10 + n) (mth K "unit") ["self"] (spF K n .unit)
  conj : Ok P w K mg base (10 + n) (mth K "conjunction") ["self"] (spF K n .conj)
  disj : Ok P w K mg base (10 + n) (mth K "disjunction") ["self"] (spF K n .disj)
  impl : Ok P w K mg base (10 + n) (mth K "implication") ["self"] (spF K n .impl)
  form : Ok P w K mg base (10 + n) (mth K "formula") ["self"] (spF K n .form)
end Ele
end
section
set_option Elab.async false
set_option linter.all false
set_option maxRecDepth 100000
set_option maxHeartbeats 2000000
local macro_rules | `(tactic| walk_at "rd") => `(tactic| repeat (first
  | with_reducible refine' Ele.rd_seq ?_
  | with_reducible refine' Ele.rd_asg ?_
  | with_reducible refine' Ele.rd_name ?_
  | with_reducible refine' Ele.rd_op ?_
  | ((with_reducible refine' Ele.rd_var ?hv ?_); (case hv => rfl))
  | with_reducible refine' Ele.rd_c ?_
  | with_reducible refine' Ele.rd_rI0 ?_
  | ((with_reducible refine' Ele.rd_eq ?hs ?_); (case hs => rfl))
  | ((with_reducible refine' Ele.rd_ne ?hs ?_); (case hs => rfl))
  | with_reducible refine' Ele.rd_test ?_
  | with_reducible refine' Ele.rd_k ?_
  | with_reducible refine' Ele.rd_if ?_
  | with_reducible refine' Ele.rd_drop ?_
  | with_reducible refine' Ele.rd_ret ?_
  | with_reducible refine' Ele.rd_retN ?_
  | with_reducible refine' Ele.rd_next ?_
  | with_reducible refine' Ele.rd_brk ?_
  | ((with_reducible refine' Ele.rd_aug ?hs ?_); (case hs => rfl))
  | with_reducible refine' Ele.rd_ipI ?_
  | with_reducible refine' Ele.rd_cons ?_
  | with_reducible refine' Ele.rd_nil ?_
  | with_reducible refine' Ele.rd_cl ?_
  | with_reducible refine' Ele.rd_cb ?_
  | with_reducible refine' Ele.rd_tup ?_
  | with_reducible refine' Ele.rd_lst ?_
  | with_reducible refine' Ele.rd_not ?_
  | with_reducible refine' Ele.rd_notV ?_
  | with_reducible refine' Ele.rd_and ?_
  | with_reducible refine' Ele.rd_or ?_
  | with_reducible refine' Ele.rd_andV ?_
  | with_reducible refine' Ele.rd_orV ?_
  | with_reducible refine' Ele.rd_add ?_
  | with_reducible refine' Ele.rd_max ?_
  | with_reducible refine' Ele.rd_int ?_
  | with_reducible refine' Ele.rd_tB ?_
  | with_reducible refine' Ele.rd_un ?_
  | ((with_reducible refine' Ele.rd_lenL ?h ?_); (case h => exact Ele.sl_of (by assumption)))
  | ((with_reducible refine' Ele.rd_lenT ?h ?_); (case h => exact Ele.st_of (by assumption)))
  | with_reducible refine' Ele.rd_fld ?_
  | with_reducible refine' Ele.rd_mt0 ?_
  | ((with_reducible refine' Ele.rd_row ?hT ?hR ?_); (case hT => assumption); (case hR => assumption))
  | ((with_reducible refine' Ele.rd_at ?hT ?hR ?_); (case hT => assumption); (case hR => assumption))
  | ((with_reducible refine' Ele.rd_opc ?hT ?hR ?_); (case hT => assumption); (case hR => assumption))
  | ((with_reducible refine' Ele.rd_scp ?hT ?hR ?_); (case hT => assumption); (case hR => assumption))
  | ((with_reducible refine' Ele.rd_mt ?hR ?hm ?_); (case hR => assumption); (case hm => decide +kernel))
  | ((with_reducible refine' Ele.rd_word ?hR ?_); (case hR => assumption))
  | ((with_reducible refine' Ele.rd_kind ?hR ?_); (case hR => assumption))
  | ((with_reducible refine' Ele.rd_gtup2 ?h ?hn ?_); (case h => assumption); (case hn => rfl))
  | with_reducible refine' Ele.rd_gcons ?_
  | with_reducible refine' Ele.rd_gnil ?_
  | with_reducible refine' Ele.rd_gsub ?_
  | with_reducible refine' Ele.rd_fldset ?_
  ))
namespace Ele
open PySem PySem.Spec PyProof.Rows L2
theorem kind_ne_var {f : Str} (h : isVar f = false) : kindOf f ≠ ("variable" : Str) := by
  unfold kindOf
  rw [h]
  split
  · decide +kernel
  · rw [if_neg Bool.false_ne_true]
    split <;> decide +kernel
section
variable {P : Program} {w : World} {K : PySem.W.Frag} {mg : Str → Option Value} {base : Heap} {n : Nat}
abbrev N_atom : List Str := ["self", "alone", "left"]
theorem sc_atom : FnScope N_atom ["self"] (defScope s_m_atom) := ⟨rfl, rfl, rfl, by decide +kernel, rfl, by decide +kernel, by decide +kernel⟩
theorem ok_atom (T : Txt K mg) (L : Low P w K mg base) (A : At_ P w K mg base n) (F : Fd K d_m_atom) : Ok P w K mg base (10 + n + 1) (mth K "atom") ["self"] (spF K (n + 1) .atom) := by
  have O_word := L.word
  have O_kind := L.kind
  have O_next_term := A.term
  refine ok_mk F sc_atom (fun _ _ _ _ _ _ us hl => match us, hl with | [_], _ => rfl) (fun vs H Q E h => ?_) (fun f cdv A outer s H vs Q E hr h => ?_)
  · obtain ⟨_, _, _, _, _, _, _, _, rfl, _⟩ := h
    rfl
  obtain ⟨R, sa, ts, o, sc, h, φ, ts', rfl, hR, hp, q⟩ := h
  refine ⟨_, (pss_cons (ps_set (i := 1) sc_atom.nd rfl (Or.inl rfl) (qcmp op_ne (qm0 T mm_kind O_kind (hr.mono (by omega)) (pv 0)) pe_str))
  (pss_cons (ps_set (i := 2) sc_atom.nd rfl (Or.inl rfl) (qm0 T mm_next_term O_next_term (hr.mono (by omega)) (pv 0)))
  (pss_cons (ps_if (qtst op_eq (qm0 T mm_word O_word (hr.mono (by omega)) (pv 0)) pe_str) (pss_cons (qaf K in_add (pv 0) pe_int)
  (pss_one (ps_ret (pe_tup (pa_cons pe_int (pa_cons (pe_tup (pa_cons pe_str (pa_cons (pv 2) (pa_cons (qm0 T mm_next_term O_next_term (hr.mono (by omega)) (pv 0)) pa_nil)))) pa_nil)))))) pss_nil)
  (pss_cons (ps_if (qtst op_eq (qm0 T mm_word O_word (hr.mono (by omega)) (pv 0)) pe_str) (pss_cons (qaf K in_add (pv 0) pe_int)
  (pss_one (ps_ret (pe_tup (pa_cons pe_int (pa_cons (pe_tup (pa_cons pe_str (pa_cons (pe_tup (pa_cons pe_str (pa_cons (pv 2) (pa_cons (qm0 T mm_next_term O_next_term (hr.mono (by omega)) (pv 0)) pa_nil)))) pa_nil))) pa_nil)))))) pss_nil)
  (pss_cons (ps_if (pt_not (pt_val (pv 1))) pss_never pss_nil)
  (pss_one (ps_ret (pe_tup (pa_cons pe_int (pa_cons (pe_tup (pa_cons pe_str (pa_cons (pv 2) (pa_cons (qgr T gm_TRUE) pa_nil)))) pa_nil)))))))))), ?_⟩
  cases hp with
  | @eq _ _ _ _ a w ts1 b _ p1 hw p2 =>
    subst hw
    obtain ⟨w0, r0, rfl⟩ := p1.cons
    walk_at "rd"
    refine ⟨R, sa, _, o, sc, a, _, rfl, hR, p1, fun v H1 f1 r1 d1 => ?_⟩
    walk_at "rd"
    refine ift (dT rfl) ?_
    walk_at "rd"
    refine rd_augAt T r1 rfl fun H2 f2 r2 => ?_
    walk_at "rd"
    refine ⟨R, sa, _, o, sc, b, _, rfl, r2, p2, fun u H3 f3 r3 d3 => ?_⟩
    have d4 := r2.dp f3 p1.flat (r1.dp f2 p1.flat d1)
    walk_at "rd"
    refine rd_newT fun p H4 hp x4 e4 => ?_
    walk_at "rd"
    refine rd_newT fun p5 H5 hp5 x5 e5 => ?_
    exact q _ _ H5 (((f1.trans f2).trans f3).ex (x4.trans x5)) (r3.ex (x4.trans x5)) e5 (dp_ex x5 _ (dp3 e4 (dp_ex x4 _ d4) (dp_ex x4 _ d3)))
  | @ne _ _ _ _ a w ts1 b _ p1 hw p2 =>
    subst hw
    obtain ⟨w0, r0, rfl⟩ := p1.cons
    walk_at "rd"
    refine ⟨R, sa, _, o, sc, a, _, rfl, hR, p1, fun v H1 f1 r1 d1 => ?_⟩
    walk_at "rd"
    refine iff' (dF (by decide +kernel)) ?_
    walk_at "rd"
    refine ift (dT rfl) ?_
    walk_at "rd"
    refine rd_augAt T r1 rfl fun H2 f2 r2 => ?_
    walk_at "rd"
    refine ⟨R, sa, _, o, sc, b, _, rfl, r2, p2, fun u H3 f3 r3 d3 => ?_⟩
    have d4 := r2.dp f3 p1.flat (r1.dp f2 p1.flat d1)
    walk_at "rd"
    refine rd_newT fun p H4 hp x4 e4 => ?_
    walk_at "rd"
    refine rd_newT fun p5 H5 hp5 x5 e5 => ?_
    walk_at "rd"
    refine rd_newT fun p6 H6 hp6 x6 e6 => ?_
    exact q _ _ H6 (((f1.trans f2).trans f3).ex ((x4.trans x5).trans x6)) (r3.ex ((x4.trans x5).trans x6)) e6 (dp_ex x6 _ (dp2 e5 (dp_ex x5 _ (dp3 e4 (dp_ex x4 _ d4) (dp_ex x4 _ d3)))))
  | @al _ _ _ f ts a w ts1 hf p1 h1 h2 =>
    walk_at "rd"
    refine ⟨R, sa, _, o, sc, a, _, rfl, hR, p1, fun v H1 f1 r1 d1 => ?_⟩
    walk_at "rd"
    refine iff' (dF h1) ?_
    walk_at "rd"
    refine iff' (dF h2) ?_
    walk_at "rd"
    refine iff' (by rw [dF (kind_ne_var hf)]; rfl) ?_
    walk_at "rd"
    refine rd_newT fun p H4 hp x4 e4 => ?_
    walk_at "rd"
    refine rd_newT fun p5 H5 hp5 x5 e5 => ?_
    exact q _ _ H5 (f1.ex (x4.trans x5)) (r1.ex (x4.trans x5)) e5 (dp_ex x5 _ (dp3 e4 (dp_ex x4 _ d1) (.tup (T.tr _) (.cons (.str _) .nil))))
abbrev N_implication : List Str := ["self", "height", "formula", "other_height", "other"]
theorem sc_implication : FnScope N_implication ["self"] (defScope s_m_implication) := ⟨rfl, rfl, rfl, by decide +kernel, rfl, by decide +kernel, by decide +kernel⟩
theorem ok_implication (T : Txt K mg) (L : Low P w K mg base) (A : At_ P w K mg base n) (F : Fd K d_m_implication) : Ok P w K mg base (10 + n + 1) (mth K "implication") ["self"] (spF K (n + 1) .impl) := by
  have O_word := L.word
  have O_opening := L.opening
  have O_closed := L.closed
  have O_disjunction := A.disj
  have O_implication := A.impl
  refine ok_mk F sc_implication (fun _ _ _ _ _ _ us hl => match us, hl with | [_], _ => rfl) (fun vs H Q E h => ?_) (fun f cdv A outer s H vs Q E hr h => ?_)
  · obtain ⟨_, _, _, _, _, _, _, _, rfl, _⟩ := h
    rfl
  obtain ⟨R, sa, ts, o, sc, h, φ, ts', rfl, hR, hp, q⟩ := h
  refine ⟨_, (pss_cons (ps_asg (qm0 T mm_disjunction O_disjunction (hr.mono (by omega)) (pv 0)) (qgt K (pgs_cons (pg_name (i := 1) sc_implication.nd rfl (Or.inl rfl)) (pgs_cons (pg_name (i := 2) sc_implication.nd rfl (Or.inl rfl)) pgs_nil))))
  (pss_cons (ps_if (qtst op_ne (qm0 T mm_word O_word (hr.mono (by omega)) (pv 0)) pe_str) (pss_one (ps_ret (pe_tup (pa_cons (pv 1) (pa_cons (pv 2) pa_nil))))) pss_nil)
  (pss_cons (ps_expr (qm0 T mm_opening O_opening (hr.mono (by omega)) (pv 0)))
  (pss_cons (ps_asg (qm0 T mm_implication O_implication (hr.mono (by omega)) (pv 0)) (qgt K (pgs_cons (pg_name (i := 3) sc_implication.nd rfl (Or.inl rfl)) (pgs_cons (pg_name (i := 4) sc_implication.nd rfl (Or.inl rfl)) pgs_nil))))
  (pss_cons (ps_expr (qm0 T mm_closed O_closed (hr.mono (by omega)) (pv 0)))
  (pss_one (ps_ret (pe_tup (pa_cons (pe_op op_add pe_int (qcb qmaxI T fm_max bl_max (pa_cons (pv 1) (pa_cons (pv 3) pa_nil)))) (pa_cons (pe_tup (pa_cons pe_str (pa_cons (pv 2) (pa_cons (pv 4) pa_nil)))) pa_nil)))))))))), ?_⟩
  cases hp with
  | @im0 _ _ _ _ _ _ w ts1 p1 hw =>
    walk_at "rd"
    refine ⟨R, sa, _, o, sc, h, φ, _, rfl, hR, p1, fun p v H1 f1 r1 e1 d1 => ?_⟩
    walk_at "rd"
    refine ift (nT hw) ?_
    walk_at "rd"
    refine rd_newT fun p4 H4 hp x4 e4 => ?_
    exact q _ _ H4 (f1.ex x4) (r1.ex x4) e4 (dp_ex x4 _ d1)
  | @im1 _ _ _ _ h1 φ1 w ts1 h2 φ2 _ p1 hw ho p2 =>
    subst hw
    walk_at "rd"
    refine ⟨R, sa, _, o, sc, _, _, _, rfl, hR, p1, fun p v H1 f1 r1 e1 d1 => ?_⟩
    walk_at "rd"
    refine iff' (nF rfl) ?_
    walk_at "rd"
    refine ⟨R, sa, _, _, o, sc, rfl, r1, ho, fun H2 f2 r2 => ?_⟩
    walk_at "rd"
    refine ⟨R, sa, _, o + 1, sc, _, _, _, rfl, r2, p2, fun p3 v3 H3 f3 r3 e3 d3 => ?_⟩
    walk_at "rd"
    refine ⟨R, sa, _, o, sc, rfl, r3, fun H4 f4 r4 => ?_⟩
    have d5 := r3.dp f4 (p1.flat trivial) (r2.dp f3 (p1.flat trivial) (r1.dp f2 (p1.flat trivial) d1))
    have d6 := r3.dp f4 (p2.flat trivial) d3
    walk_at "rd"
    rw [imax]
    refine rd_newT fun p7 H7 hp7 x7 e7 => ?_
    walk_at "rd"
    refine rd_newT fun p8 H8 hp8 x8 e8 => ?_
    exact q _ _ H8 ((((f1.trans f2).trans f3).trans f4).ex (x7.trans x8)) (r4.ex (x7.trans x8)) e8 (dp_ex x8 _ (dp3 e7 (dp_ex x7 _ d5) (dp_ex x7 _ d6)))
abbrev N_formula : List Str := ["self", "height", "formula", "other_height", "other"]
theorem sc_formula : FnScope N_formula ["self"] (defScope s_m_formula) := ⟨rfl, rfl, rfl, by decide +kernel, rfl, by decide +kernel, by decide +kernel⟩
theorem ok_formula (T : Txt K mg) (L : Low P w K mg base) (A : At_ P w K mg base n) (F : Fd K d_m_formula) : Ok P w K mg base (10 + n + 1) (mth K "formula") ["self"] (spF K (n + 1) .form) := by
  have O_word := L.word
  have O_implication := A.impl
  refine ok_mk F sc_formula (fun _ _ _ _ _ _ us hl => match us, hl with | [_], _ => rfl) (fun vs H Q E h => ?_) (fun f cdv A outer s H vs Q E hr h => ?_)
  · obtain ⟨_, _, _, _, _, _, _, _, rfl, _⟩ := h
    rfl
  obtain ⟨R, sa, ts, o, sc, h, φ, ts', rfl, hR, hp, q⟩ := h
  refine ⟨_, (pss_cons (ps_asg (qm0 T mm_implication O_implication (hr.mono (by omega)) (pv 0)) (qgt K (pgs_cons (pg_name (i := 1) sc_formula.nd rfl (Or.inl rfl)) (pgs_cons (pg_name (i := 2) sc_formula.nd rfl (Or.inl rfl)) pgs_nil))))
  (pss_cons (ps_if (qtst op_ne (qm0 T mm_word O_word (hr.mono (by omega)) (pv 0)) pe_str) (pss_one (ps_ret (pe_tup (pa_cons (pv 1) (pa_cons (pv 2) pa_nil))))) pss_nil)
  (pss_cons (qaf K in_add (pv 0) pe_int)
  (pss_cons (ps_asg (qm0 T mm_implication O_implication (hr.mono (by omega)) (pv 0)) (qgt K (pgs_cons (pg_name (i := 3) sc_formula.nd rfl (Or.inl rfl)) (pgs_cons (pg_name (i := 4) sc_formula.nd rfl (Or.inl rfl)) pgs_nil))))
  (pss_one (ps_ret (pe_tup (pa_cons (pe_op op_add pe_int (qcb qmaxI T fm_max bl_max (pa_cons (pv 1) (pa_cons (pv 3) pa_nil)))) (pa_cons (pe_tup (pa_cons pe_str (pa_cons (pv 2) (pa_cons (pv 4) pa_nil)))) pa_nil))))))))), ?_⟩
  cases hp with
  | @fo0 _ _ _ _ _ _ w ts1 p1 hw =>
    walk_at "rd"
    refine ⟨R, sa, _, o, sc, h, φ, _, rfl, hR, p1, fun p v H1 f1 r1 e1 d1 => ?_⟩
    walk_at "rd"
    refine ift (nT hw) ?_
    walk_at "rd"
    refine rd_newT fun p4 H4 hp x4 e4 => ?_
    exact q _ _ H4 (f1.ex x4) (r1.ex x4) e4 (dp_ex x4 _ d1)
  | @fo1 _ _ _ _ h1 φ1 w ts1 h2 φ2 _ p1 hw p2 =>
    subst hw
    walk_at "rd"
    refine ⟨R, sa, _, o, sc, _, _, _, rfl, hR, p1, fun p v H1 f1 r1 e1 d1 => ?_⟩
    walk_at "rd"
    refine iff' (nF rfl) ?_
    walk_at "rd"
    refine rd_augAt T r1 rfl fun H2 f2 r2 => ?_
    walk_at "rd"
    refine ⟨R, sa, _, o, sc, _, _, _, rfl, r2, p2, fun p3 v3 H3 f3 r3 e3 d3 => ?_⟩
    have d5 := r2.dp f3 (p1.flat trivial) (r1.dp f2 (p1.flat trivial) d1)
    walk_at "rd"
    rw [imax]
    refine rd_newT fun p7 H7 hp7 x7 e7 => ?_
    walk_at "rd"
    refine rd_newT fun p8 H8 hp8 x8 e8 => ?_
    exact q _ _ H8 (((f1.trans f2).trans f3).ex (x7.trans x8)) (r3.ex (x7.trans x8)) e8 (dp_ex x8 _ (dp3 e7 (dp_ex x7 _ d5) (dp_ex x7 _ d3)))
/-- between two conjuncts -/
def CjW (K : PySem.W.Frag) (R : Rp) (H0 : Hp) (sa : Addr) (n o : Nat) (sc : List Str) (hE : Nat) (fE : PyData) (te : List Str) (m : Nat) (σ : L2.St) (H : Hp) : Prop :=
  ∃ (h : Nat) (f : PyData) (v : V) (ts : List Str) (x y : Option V), m = ts.length ∧ σ = [some (.ref R.r), some (.int h), some v, x, y] ∧ Fx R.r H0 H ∧ Dp K H v f ∧ flatT f = true ∧ RSx K R H sa ts o sc ∧ PF n (.conjL h f) sc o ts hE fE te
def DjW (K : PySem.W.Frag) (R : Rp) (H0 : Hp) (sa : Addr) (n o : Nat) (sc : List Str) (hE : Nat) (fE : PyData) (te : List Str) (m : Nat) (σ : L2.St) (H : Hp) : Prop :=
  ∃ (h : Nat) (f : PyData) (v : V) (ts : List Str) (x y : Option V), m = ts.length ∧ σ = [some (.ref R.r), some (.int h), some v, x, y] ∧ Fx R.r H0 H ∧ Dp K H v f ∧ flatT f = true ∧ RSx K R H sa ts o sc ∧ PF n (.disjL h f) sc o ts hE fE te
abbrev N_conjunction : List Str := ["self", "height", "formula", "other_height", "other"]
theorem sc_conjunction : FnScope N_conjunction ["self"] (defScope s_m_conjunction) := ⟨rfl, rfl, rfl, by decide +kernel, rfl, by decide +kernel, by decide +kernel⟩
theorem ok_conjunction (T : Txt K mg) (L : Low P w K mg base) (A : At_ P w K mg base n) (F : Fd K d_m_conjunction) : Ok P w K mg base (10 + n + 1) (mth K "conjunction") ["self"] (spF K (n + 1) .conj) := by
  have O_word := L.word
  have O_unit := A.unit
  refine ok_mk F sc_conjunction (fun _ _ _ _ _ _ us hl => match us, hl with | [_], _ => rfl) (fun vs H Q E h => ?_) (fun f cdv A outer s H vs Q E hr h => ?_)
  · obtain ⟨_, _, _, _, _, _, _, _, rfl, _⟩ := h
    rfl
  obtain ⟨R, sa, ts, o, sc, h, φ, ts', rfl, hR, hp, q⟩ := h
  refine ⟨_, (pss_cons (ps_asg (qm0 T mm_unit O_unit (hr.mono (by omega)) (pv 0)) (qgt K (pgs_cons (pg_name (i := 1) sc_conjunction.nd rfl (Or.inl rfl)) (pgs_cons (pg_name (i := 2) sc_conjunction.nd rfl (Or.inl rfl)) pgs_nil))))
  (pss_cons (ps_while PassesOwn.never (qtst op_eq (qm0 T mm_word O_word (hr.mono (by omega)) (pv 0)) pe_str) (pss_cons (qaf K in_add (pv 0) pe_int)
  (pss_cons (ps_asg (qm0 T mm_unit O_unit (hr.mono (by omega)) (pv 0)) (qgt K (pgs_cons (pg_name (i := 3) sc_conjunction.nd rfl (Or.inl rfl)) (pgs_cons (pg_name (i := 4) sc_conjunction.nd rfl (Or.inl rfl)) pgs_nil))))
  (pss_cons (ps_set (i := 1) sc_conjunction.nd rfl (Or.inl rfl) (pe_op op_add pe_int (qcb qmaxI T fm_max bl_max (pa_cons (pv 1) (pa_cons (pv 3) pa_nil)))))
  (pss_one (ps_set (i := 2) sc_conjunction.nd rfl (Or.inl rfl) (pe_tup (pa_cons pe_str (pa_cons (pv 2) (pa_cons (pv 4) pa_nil))))))))))
  (pss_one (ps_ret (pe_tup (pa_cons (pv 1) (pa_cons (pv 2) pa_nil))))))), ?_⟩
  cases hp with
  | @con _ _ _ _ h1 φ1 ts1 _ _ _ p1 p2 =>
    walk_at "rd"
    refine ⟨R, sa, _, o, sc, _, _, _, rfl, hR, p1, fun p v H1 f1 r1 e1 d1 => ?_⟩
    walk_at "rd"
    refine ⟨CjW K R H sa n o sc h φ ts', ⟨ts1.length, _, _, v, ts1, none, none, rfl, rfl, f1, d1, p1.flat trivial, r1, p2⟩, ?_⟩
    rintro m σ H2 ⟨h2, φ2, v2, ts2, x, y, rfl, rfl, f2, d2, fl2, r2, p3⟩
    cases p3 with
    | @cl0 _ _ _ w ts3 _ _ hw =>
      walk_at "rd"
      refine iff' (dF hw) ?_
      walk_at "rd"
      refine rd_newT fun p4 H4 hp x4 e4 => ?_
      exact q _ _ H4 (f2.ex x4) (r2.ex x4) e4 (dp_ex x4 _ d2)
    | @cl1 _ _ _ w ts3 _ _ h4 φ4 ts4 _ _ _ hw p4 p5 =>
      subst hw
      walk_at "rd"
      refine ift (dT rfl) ?_
      refine ⟨fun σ2 H2 => ∃ m', m' < _ ∧ CjW K R H sa n o sc h φ ts' m' σ2 H2, fun _ _ h => h, ?_⟩
      walk_at "rd"
      refine rd_augAt T r2 rfl fun H3 f3 r3 => ?_
      walk_at "rd"
      refine ⟨R, sa, _, o, sc, _, _, _, rfl, r3, p4, fun b5 v5 H5 f5 r5 e5 d5 => ?_⟩
      have d6 := r3.dp f5 fl2 (r2.dp f3 fl2 d2)
      walk_at "rd"
      rw [imax]
      refine rd_newT fun p7 H7 hp7 x7 e7 => ?_
      walk_at "rd"
      have hl := p4.len
      refine ⟨ts4.length, ?_, _, _, _, ts4, _, _, rfl, rfl, ((f2.trans f3).trans f5).ex x7, dp3 e7 (dp_ex x7 _ d6) (dp_ex x7 _ d5), flat3 fl2 (p4.flat trivial), r5.ex x7, p5⟩
      simp only [isLoop, List.length_cons] at hl ⊢
      omega
abbrev N_disjunction : List Str := ["self", "height", "formula", "other_height", "other"]
theorem sc_disjunction : FnScope N_disjunction ["self"] (defScope s_m_disjunction) := ⟨rfl, rfl, rfl, by decide +kernel, rfl, by decide +kernel, by decide +kernel⟩
theorem ok_disjunction (T : Txt K mg) (L : Low P w K mg base) (A : At_ P w K mg base n) (F : Fd K d_m_disjunction) : Ok P w K mg base (10 + n + 1) (mth K "disjunction") ["self"] (spF K (n + 1) .disj) := by
  have O_word := L.word
  have O_conjunction := A.conj
  refine ok_mk F sc_disjunction (fun _ _ _ _ _ _ us hl => match us, hl with | [_], _ => rfl) (fun vs H Q E h => ?_) (fun f cdv A outer s H vs Q E hr h => ?_)
  · obtain ⟨_, _, _, _, _, _, _, _, rfl, _⟩ := h
    rfl
  obtain ⟨R, sa, ts, o, sc, h, φ, ts', rfl, hR, hp, q⟩ := h
  refine ⟨_, (pss_cons (ps_asg (qm0 T mm_conjunction O_conjunction (hr.mono (by omega)) (pv 0)) (qgt K (pgs_cons (pg_name (i := 1) sc_disjunction.nd rfl (Or.inl rfl)) (pgs_cons (pg_name (i := 2) sc_disjunction.nd rfl (Or.inl rfl)) pgs_nil))))
  (pss_cons (ps_while PassesOwn.never (qtst op_eq (qm0 T mm_word O_word (hr.mono (by omega)) (pv 0)) pe_str) (pss_cons (qaf K in_add (pv 0) pe_int)
  (pss_cons (ps_asg (qm0 T mm_conjunction O_conjunction (hr.mono (by omega)) (pv 0)) (qgt K (pgs_cons (pg_name (i := 3) sc_disjunction.nd rfl (Or.inl rfl)) (pgs_cons (pg_name (i := 4) sc_disjunction.nd rfl (Or.inl rfl)) pgs_nil))))
  (pss_cons (ps_set (i := 1) sc_disjunction.nd rfl (Or.inl rfl) (pe_op op_add pe_int (qcb qmaxI T fm_max bl_max (pa_cons (pv 1) (pa_cons (pv 3) pa_nil)))))
  (pss_one (ps_set (i := 2) sc_disjunction.nd rfl (Or.inl rfl) (pe_tup (pa_cons pe_str (pa_cons (pv 2) (pa_cons (pv 4) pa_nil))))))))))
  (pss_one (ps_ret (pe_tup (pa_cons (pv 1) (pa_cons (pv 2) pa_nil))))))), ?_⟩
  cases hp with
  | @dis _ _ _ _ h1 φ1 ts1 _ _ _ p1 p2 =>
    walk_at "rd"
    refine ⟨R, sa, _, o, sc, _, _, _, rfl, hR, p1, fun p v H1 f1 r1 e1 d1 => ?_⟩
    walk_at "rd"
    refine ⟨DjW K R H sa n o sc h φ ts', ⟨ts1.length, _, _, v, ts1, none, none, rfl, rfl, f1, d1, p1.flat trivial, r1, p2⟩, ?_⟩
    rintro m σ H2 ⟨h2, φ2, v2, ts2, x, y, rfl, rfl, f2, d2, fl2, r2, p3⟩
    cases p3 with
    | @dl0 _ _ _ w ts3 _ _ hw =>
      walk_at "rd"
      refine iff' (dF hw) ?_
      walk_at "rd"
      refine rd_newT fun p4 H4 hp x4 e4 => ?_
      exact q _ _ H4 (f2.ex x4) (r2.ex x4) e4 (dp_ex x4 _ d2)
    | @dl1 _ _ _ w ts3 _ _ h4 φ4 ts4 _ _ _ hw p4 p5 =>
      subst hw
      walk_at "rd"
      refine ift (dT rfl) ?_
      refine ⟨fun σ2 H2 => ∃ m', m' < _ ∧ DjW K R H sa n o sc h φ ts' m' σ2 H2, fun _ _ h => h, ?_⟩
      walk_at "rd"
      refine rd_augAt T r2 rfl fun H3 f3 r3 => ?_
      walk_at "rd"
      refine ⟨R, sa, _, o, sc, _, _, _, rfl, r3, p4, fun b5 v5 H5 f5 r5 e5 d5 => ?_⟩
      have d6 := r3.dp f5 fl2 (r2.dp f3 fl2 d2)
      walk_at "rd"
      rw [imax]
      refine rd_newT fun p7 H7 hp7 x7 e7 => ?_
      walk_at "rd"
      have hl := p4.len
      refine ⟨ts4.length, ?_, _, _, _, ts4, _, _, rfl, rfl, ((f2.trans f3).trans f5).ex x7, dp3 e7 (dp_ex x7 _ d6) (dp_ex x7 _ d5), flat3 fl2 (p4.flat trivial), r5.ex x7, p5⟩
      simp only [isLoop, List.length_cons] at hl ⊢
      omega
end
end Ele
end
section
set_option Elab.async false
set_option linter.all false
set_option maxRecDepth 100000
set_option maxHeartbeats 2000000
local macro_rules | `(tactic| walk_at "rd") => `(tactic| repeat (first
  | with_reducible refine' Ele.rd_seq ?_
  | with_reducible refine' Ele.rd_asg ?_
  | with_reducible refine' Ele.rd_name ?_
  | with_reducible refine' Ele.rd_op ?_
  | ((with_reducible refine' Ele.rd_var ?hv ?_); (case hv => rfl))
  | with_reducible refine' Ele.rd_c ?_
  | with_reducible refine' Ele.rd_rI0 ?_
  | ((with_reducible refine' Ele.rd_eq ?hs ?_); (case hs => rfl))
  | ((with_reducible refine' Ele.rd_ne ?hs ?_); (case hs => rfl))
  | with_reducible refine' Ele.rd_test ?_
  | with_reducible refine' Ele.rd_k ?_
  | with_reducible refine' Ele.rd_if ?_
  | with_reducible refine' Ele.rd_drop ?_
  | with_reducible refine' Ele.rd_ret ?_
  | with_reducible refine' Ele.rd_retN ?_
  | with_reducible refine' Ele.rd_next ?_
  | with_reducible refine' Ele.rd_brk ?_
  | ((with_reducible refine' Ele.rd_aug ?hs ?_); (case hs => rfl))
  | with_reducible refine' Ele.rd_ipI ?_
  | with_reducible refine' Ele.rd_cons ?_
  | with_reducible refine' Ele.rd_nil ?_
  | with_reducible refine' Ele.rd_cl ?_
  | with_reducible refine' Ele.rd_cb ?_
  | with_reducible refine' Ele.rd_tup ?_
  | with_reducible refine' Ele.rd_lst ?_
  | with_reducible refine' Ele.rd_not ?_
  | with_reducible refine' Ele.rd_notV ?_
  | with_reducible refine' Ele.rd_and ?_
  | with_reducible refine' Ele.rd_or ?_
  | with_reducible refine' Ele.rd_andV ?_
  | with_reducible refine' Ele.rd_orV ?_
  | with_reducible refine' Ele.rd_add ?_
  | with_reducible refine' Ele.rd_max ?_
  | with_reducible refine' Ele.rd_int ?_
  | with_reducible refine' Ele.rd_tB ?_
  | with_reducible refine' Ele.rd_un ?_
  | ((with_reducible refine' Ele.rd_lenL ?h ?_); (case h => exact Ele.sl_of (by assumption)))
  | ((with_reducible refine' Ele.rd_lenT ?h ?_); (case h => exact Ele.st_of (by assumption)))
  | with_reducible refine' Ele.rd_fld ?_
  | with_reducible refine' Ele.rd_mt0 ?_
  | ((with_reducible refine' Ele.rd_row ?hT ?hR ?_); (case hT => assumption); (case hR => assumption))
  | ((with_reducible refine' Ele.rd_at ?hT ?hR ?_); (case hT => assumption); (case hR => assumption))
  | ((with_reducible refine' Ele.rd_opc ?hT ?hR ?_); (case hT => assumption); (case hR => assumption))
  | ((with_reducible refine' Ele.rd_scp ?hT ?hR ?_); (case hT => assumption); (case hR => assumption))
  | ((with_reducible refine' Ele.rd_mt ?hR ?hm ?_); (case hR => assumption); (case hm => decide +kernel))
  | ((with_reducible refine' Ele.rd_word ?hR ?_); (case hR => assumption))
  | ((with_reducible refine' Ele.rd_kind ?hR ?_); (case hR => assumption))
  | ((with_reducible refine' Ele.rd_gtup2 ?h ?hn ?_); (case h => assumption); (case hn => rfl))
  | with_reducible refine' Ele.rd_gcons ?_
  | with_reducible refine' Ele.rd_gnil ?_
  | with_reducible refine' Ele.rd_gsub ?_
  | with_reducible refine' Ele.rd_fldset ?_
  ))
namespace Ele
open PySem PySem.Spec PyProof.Rows L2
/-- among the names that a quantifier introduces -/
def QvW (K : PySem.W.Frag) (R : Rp) (H0 : Hp) (sa l : Addr) (q : Str) (o : Nat) (sc all te : List Str) (m : Nat) (σ : L2.St) (H : Hp) : Prop :=
  ∃ (ys r ts : List Str), m = ts.length ∧ σ = [some (.ref R.r), some (.str q), some (.ref l), none, none, none, none] ∧ Fx R.r H0 H ∧ H l = some (.lst (ys.map V.str)) ∧ all = ys ++ r ∧ RSx K R H sa ts (o + ys.length) sc ∧ QV (o + ys.length) ts r te
/-- among the names again, from the last to the first -/
def QrW (K : PySem.W.Frag) (R : Rp) (H0 : Hp) (sa l : Addr) (q : Str) (o h : Nat) (f : PyData) (sc all te : List Str) (i : Nat) (σ : L2.St) (H : Hp) : Prop :=
  ∃ (v : V) (z : Option V), i ≤ all.length ∧ σ = [some (.ref R.r), some (.str q), some (.ref l), some (.ref sa), some (.int (h + i : Nat)), some v, z] ∧ Fx R.r H0 H ∧ H l = some (.lst (all.map V.str)) ∧ Dp K H v (quD q (all.drop (all.length - i)) f) ∧ RSx K R H sa te (o + (all.length - i)) sc
theorem name_at {xs : List Str} {i : Nat} {x : V} (hi : i < xs.length) (hx : (xs.map V.str)[xs.length - 1 - i]? = some x) : ∃ y, xs.drop (xs.length - (i + 1)) = y :: xs.drop (xs.length - i) ∧ x = .str y := by
  have hj : xs.length - 1 - i < xs.length := by omega
  rw [List.getElem?_map, List.getElem?_eq_getElem hj] at hx
  refine ⟨xs[xs.length - 1 - i], ?_, (Option.some.inj hx).symm⟩
  rw [show xs.length - (i + 1) = xs.length - 1 - i by omega, List.drop_eq_getElem_cons hj, show xs.length - 1 - i + 1 = xs.length - i by omega]
section
variable {P : Program} {w : World} {K : PySem.W.Frag} {mg : Str → Option Value} {base : Heap} {n : Nat}
abbrev N_unit : List Str := ["self", "word", "height", "formula"]
theorem sc_unit : FnScope N_unit ["self"] (defScope s_m_unit) := ⟨rfl, rfl, rfl, by decide +kernel, rfl, by decide +kernel, by decide +kernel⟩
theorem ok_unit (T : Txt K mg) (L : Low P w K mg base) (A : At_ P w K mg base n) (F : Fd K d_m_unit) : Ok P w K mg base (10 + n + 1) (mth K "unit") ["self"] (spF K (n + 1) .unit) := by
  have O_word := L.word
  have O_opening := L.opening
  have O_closed := L.closed
  have O_skip := L.skip
  have O_unit := A.unit
  have O_formula := A.form
  have O_quantified := A.quant
  have O_atom := A.atom
  refine ok_mk F sc_unit (fun _ _ _ _ _ _ us hl => match us, hl with | [_], _ => rfl) (fun vs H Q E h => ?_) (fun f cdv A outer s H vs Q E hr h => ?_)
  · obtain ⟨_, _, _, _, _, _, _, _, rfl, _⟩ := h
    rfl
  obtain ⟨R, sa, ts, o, sc, h, φ, ts', rfl, hR, hp, q⟩ := h
  refine ⟨_, (pss_cons (ps_set (i := 1) sc_unit.nd rfl (Or.inl rfl) (qm0 T mm_word O_word (hr.mono (by omega)) (pv 0)))
  (pss_cons (ps_if (qtst op_eq (pv 1) pe_str) (pss_cons (ps_expr (qm0 T mm_opening O_opening (hr.mono (by omega)) (pv 0)))
  (pss_cons (ps_asg (qm0 T mm_unit O_unit (hr.mono (by omega)) (pv 0)) (qgt K (pgs_cons (pg_name (i := 2) sc_unit.nd rfl (Or.inl rfl)) (pgs_cons (pg_name (i := 3) sc_unit.nd rfl (Or.inl rfl)) pgs_nil))))
  (pss_cons (ps_expr (qm0 T mm_closed O_closed (hr.mono (by omega)) (pv 0)))
  (pss_one (ps_ret (pe_tup (pa_cons (pe_op op_add (pv 2) pe_int) (pa_cons (pe_tup (pa_cons pe_str (pa_cons (pv 3) pa_nil))) pa_nil)))))))) pss_nil)
  (pss_cons (ps_if (qtst op_eq (pv 1) pe_str) (pss_cons (ps_expr (qm0 T mm_opening O_opening (hr.mono (by omega)) (pv 0)))
  (pss_cons (ps_asg (qm0 T mm_formula O_formula (hr.mono (by omega)) (pv 0)) (qgt K (pgs_cons (pg_name (i := 2) sc_unit.nd rfl (Or.inl rfl)) (pgs_cons (pg_name (i := 3) sc_unit.nd rfl (Or.inl rfl)) pgs_nil))))
  (pss_cons (ps_expr (qm T mm_skip O_skip (hr.mono (by omega)) (pv 0) (pa_cons pe_str pa_nil)))
  (pss_cons (ps_expr (qm0 T mm_closed O_closed (hr.mono (by omega)) (pv 0)))
  (pss_one (ps_ret (pe_tup (pa_cons (pv 2) (pa_cons (pv 3) pa_nil))))))))) pss_nil)
  (pss_cons (ps_if (PW.pt (pw_or (qtst op_eq (pv 1) pe_str) (pw_or1 (qtst op_eq (pv 1) pe_str)))) (pss_one (ps_ret (qm0 T mm_quantified O_quantified (hr.mono (by omega)) (pv 0)))) pss_nil)
  (pss_cons (ps_if (PW.pt (pw_or (qtst op_eq (pv 1) pe_str) (pw_or1 (qtst op_eq (pv 1) pe_str)))) (pss_cons (qaf K in_add (pv 0) pe_int)
  (pss_one (ps_ret (pe_tup (pa_cons pe_int (pa_cons (pe_tup (pa_cons (pv 1) pa_nil)) pa_nil)))))) pss_nil)
  (pss_one (ps_ret (qm0 T mm_atom O_atom (hr.mono (by omega)) (pv 0))))))))), ?_⟩
  cases hp with
  | @neg _ _ _ w ts h1 φ1 _ hw ho p1 =>
    subst hw
    walk_at "rd"
    refine ift (dT rfl) ?_
    walk_at "rd"
    refine ⟨R, sa, _, _, o, sc, rfl, hR, ho, fun H1 f1 r1 => ?_⟩
    walk_at "rd"
    refine ⟨R, sa, _, o + 1, sc, _, _, _, rfl, r1, p1, fun b2 v2 H2 f2 r2 e2 d2 => ?_⟩
    walk_at "rd"
    refine ⟨R, sa, _, o, sc, rfl, r2, fun H3 f3 r3 => ?_⟩
    have d3 := r2.dp f3 (p1.flat trivial) d2
    walk_at "rd"
    refine rd_newT fun b4 H4 hb4 x4 e4 => ?_
    walk_at "rd"
    refine rd_newT fun b5 H5 hb5 x5 e5 => ?_
    exact q _ _ H5 (((f1.trans f2).trans f3).ex (x4.trans x5)) (r3.ex (x4.trans x5)) e5 (dp_ex x5 _ (dp2 e4 (dp_ex x4 _ d3)))
  | @par _ _ _ w ts _ _ c _ hw ho p1 hc =>
    subst hw hc
    walk_at "rd"
    refine iff' (dF (by decide +kernel)) ?_
    walk_at "rd"
    refine ift (dT rfl) ?_
    walk_at "rd"
    refine ⟨R, sa, _, _, o, sc, rfl, hR, ho, fun H1 f1 r1 => ?_⟩
    walk_at "rd"
    refine ⟨R, sa, _, o + 1, sc, _, _, _, rfl, r1, p1, fun b2 v2 H2 f2 r2 e2 d2 => ?_⟩
    walk_at "rd"
    refine ⟨R, sa, _, _, o + 1, sc, rfl, r2, by decide +kernel, fun H3 f3 r3 => ?_⟩
    walk_at "rd"
    refine ⟨R, sa, _, o, sc, rfl, r3, fun H4 f4 r4 => ?_⟩
    have d4 := r3.dp f4 (p1.flat trivial) (r2.dp f3 (p1.flat trivial) d2)
    walk_at "rd"
    refine rd_newT fun b5 H5 hb5 x5 e5 => ?_
    exact q _ _ H5 ((((f1.trans f2).trans f3).trans f4).ex x5) (r4.ex x5) e5 (dp_ex x5 _ d4)
  | @qun _ _ _ w ts _ _ _ hw p1 =>
    have h1 : w ≠ ("~" : Str) := by rcases hw with rfl | rfl <;> decide +kernel
    have h2 : w ≠ ("(" : Str) := by rcases hw with rfl | rfl <;> decide +kernel
    walk_at "rd"
    refine iff' (dF h1) ?_
    walk_at "rd"
    refine iff' (dF h2) ?_
    walk_at "rd"
    have fin : spF K n .quant [V.ref R.r] H Q E0 := ⟨R, sa, _, o, sc, _, _, _, rfl, hR, p1, fun b2 v2 H2 f2 r2 e2 d2 => q b2 v2 H2 f2 r2 e2 d2⟩
    rcases hw with rfl | rfl
    · refine ift (dT rfl) ?_
      refine ift rfl ?_
      walk_at "rd"
      exact fin
    · refine iff' (dF (by decide +kernel)) ?_
      walk_at "rd"
      refine ift (dT rfl) ?_
      walk_at "rd"
      exact fin
  | @tt _ _ _ w ts hw =>
    have h1 : w ≠ ("~" : Str) := by rcases hw with rfl | rfl <;> decide +kernel
    have h2 : w ≠ ("(" : Str) := by rcases hw with rfl | rfl <;> decide +kernel
    have h3 : w ≠ ("all" : Str) := by rcases hw with rfl | rfl <;> decide +kernel
    have h4 : w ≠ ("some" : Str) := by rcases hw with rfl | rfl <;> decide +kernel
    walk_at "rd"
    refine iff' (dF h1) ?_
    walk_at "rd"
    refine iff' (dF h2) ?_
    walk_at "rd"
    refine iff' (dF h3) ?_
    walk_at "rd"
    refine iff' (dF h4) ?_
    walk_at "rd"
    rcases hw with rfl | rfl
    · refine ift (dT rfl) ?_
      refine ift rfl ?_
      walk_at "rd"
      refine rd_augAt T hR rfl fun H1 f1 r1 => ?_
      walk_at "rd"
      refine rd_newT fun b4 H4 hb4 x4 e4 => ?_
      walk_at "rd"
      refine rd_newT fun b5 H5 hb5 x5 e5 => ?_
      exact q _ _ H5 (f1.ex (x4.trans x5)) (r1.ex (x4.trans x5)) e5 (dp_ex x5 _ (.tup (st_of e4) (.cons (.str _) .nil)))
    · refine iff' (dF (by decide +kernel)) ?_
      walk_at "rd"
      refine ift (dT rfl) ?_
      walk_at "rd"
      refine rd_augAt T hR rfl fun H1 f1 r1 => ?_
      walk_at "rd"
      refine rd_newT fun b4 H4 hb4 x4 e4 => ?_
      walk_at "rd"
      refine rd_newT fun b5 H5 hb5 x5 e5 => ?_
      exact q _ _ H5 (f1.ex (x4.trans x5)) (r1.ex (x4.trans x5)) e5 (dp_ex x5 _ (.tup (st_of e4) (.cons (.str _) .nil)))
  | @atm _ _ _ w ts _ _ _ hw p1 =>
    simp only [List.mem_cons, List.not_mem_nil, or_false, not_or] at hw
    obtain ⟨h1, h2, h3, h4, h5, h6⟩ := hw
    walk_at "rd"
    refine iff' (dF h1) ?_
    walk_at "rd"
    refine iff' (dF h2) ?_
    walk_at "rd"
    refine iff' (dF h3) ?_
    walk_at "rd"
    refine iff' (dF h4) ?_
    walk_at "rd"
    refine iff' (dF h5) ?_
    walk_at "rd"
    refine iff' (dF h6) ?_
    walk_at "rd"
    exact ⟨R, sa, _, o, sc, _, _, _, rfl, hR, p1, fun b2 v2 H2 f2 r2 e2 d2 => q b2 v2 H2 f2 r2 e2 d2⟩
abbrev N_quantified : List Str := ["self", "word", "names", "outer", "height", "formula", "name"]
theorem sc_quantified : FnScope N_quantified ["self"] (defScope s_m_quantified) := ⟨rfl, rfl, rfl, by decide +kernel, rfl, by decide +kernel, by decide +kernel⟩
theorem ok_quantified (T : Txt K mg) (L : Low P w K mg base) (A : At_ P w K mg base n) (F : Fd K d_m_quantified) : Ok P w K mg base (10 + n + 1) (mth K "quantified") ["self"] (spF K (n + 1) .quant) := by
  have O_word := L.word
  have O_kind := L.kind
  have O_opening := L.opening
  have O_closed := L.closed
  have O_skip := L.skip
  have O_formula := A.form
  refine ok_mk F sc_quantified (fun _ _ _ _ _ _ us hl => match us, hl with | [_], _ => rfl) (fun vs H Q E h => ?_) (fun f cdv A outer s H vs Q E hr h => ?_)
  · obtain ⟨_, _, _, _, _, _, _, _, rfl, _⟩ := h
    rfl
  obtain ⟨R, sa, ts, o, sc, h, φ, ts', rfl, hR, hp, q⟩ := h
  refine ⟨_, (pss_cons (ps_set (i := 1) sc_quantified.nd rfl (Or.inl rfl) (qm0 T mm_word O_word (hr.mono (by omega)) (pv 0)))
  (pss_cons (qaf K in_add (pv 0) pe_int)
  (pss_cons (ps_set (i := 2) sc_quantified.nd rfl (Or.inl rfl) (pe_lst pa_nil))
  (pss_cons (ps_while PassesOwn.never (pt_val pe_bl) (pss_cons (ps_if (qtst op_ne (qm0 T mm_kind O_kind (hr.mono (by omega)) (pv 0)) pe_str) pss_never pss_nil)
  (pss_cons (ps_expr (qbm K mt_append (pv 2) (pa_cons (qm0 T mm_word O_word (hr.mono (by omega)) (pv 0)) pa_nil)))
  (pss_cons (ps_expr (qm0 T mm_opening O_opening (hr.mono (by omega)) (pv 0)))
  (pss_cons (ps_if (qtst op_ne (qm0 T mm_word O_word (hr.mono (by omega)) (pv 0)) pe_str) (pss_one ps_break) pss_nil)
  (pss_one (qaf K in_add (pv 0) pe_int)))))))
  (pss_cons (ps_expr (qm T mm_skip O_skip (hr.mono (by omega)) (pv 0) (pa_cons pe_str pa_nil)))
  (pss_cons (ps_set (i := 3) sc_quantified.nd rfl (Or.inl rfl) (qf K (pv 0)))
  (pss_cons (qsf K (pv 0) (pe_op op_cat (pv 3) (pv 2)))
  (pss_cons (ps_asg (qm0 T mm_formula O_formula (hr.mono (by omega)) (pv 0)) (qgt K (pgs_cons (pg_name (i := 4) sc_quantified.nd rfl (Or.inl rfl)) (pgs_cons (pg_name (i := 5) sc_quantified.nd rfl (Or.inl rfl)) pgs_nil))))
  (pss_cons (ps_if (qtst (qni K) (qm0 T mm_word O_word (hr.mono (by omega)) (pv 0)) (pe_tup (pa_cons pe_str (pa_cons pe_str (pa_cons pe_str pa_nil))))) pss_never pss_nil)
  (pss_cons (qsf K (pv 0) (pv 3))
  (pss_cons (ps_for PassesOwn.never rfl (qrev K T (pa_cons (pv 2) pa_nil)) (pg_name (i := 6) sc_quantified.nd rfl (Or.inl rfl)) (pss_cons (ps_set (i := 5) sc_quantified.nd rfl (Or.inl rfl) (pe_tup (pa_cons (pv 1) (pa_cons (pv 6) (pa_cons (pv 5) pa_nil)))))
  (pss_cons (ps_aug (i := 4) sc_quantified.nd rfl (Or.inl rfl) pe_int ip_add)
  (pss_one (ps_expr (qm0 T mm_closed O_closed (hr.mono (by omega)) (pv 0)))))))
  (pss_one (ps_ret (pe_tup (pa_cons (pv 4) (pa_cons (pv 5) pa_nil)))))))))))))))), ?_⟩
  cases hp with
  | @qu _ _ _ qw ts xs c ts1 h1 φ1 w ts2 hsz pv hc p1 hw =>
    subst hc
    walk_at "rd"
    refine rd_augAt T hR rfl fun H1 f1 r1 => ?_
    walk_at "rd"
    refine rd_newL fun l H2 hl x2 e2 => ?_
    obtain ⟨n1, n2, n3⟩ := r1.fresh hl
    have hl0 : H l = none := Fx.free f1 (fun e => by rw [hR.obj] at e; cases e) hl n1
    walk_at "rd"
    refine ⟨QvW K R H sa l qw o sc xs ((":" : Str) :: ts1), ⟨ts.length, [], xs, ts, rfl, rfl, f1.ex x2, e2, rfl, r1.ex x2, pv⟩, ?_⟩
    rintro m σ H3 ⟨ys, r, ts3, rfl, rfl, f3, e3, hall, r3, p3⟩
    walk_at "rd"
    refine ift rfl ⟨fun σ2 H2 => ∃ m', m' < _ ∧ QvW K R H sa l qw o sc xs ((":" : Str) :: ts1) m' σ2 H2, fun _ _ h => h, ?_⟩
    have nt : ∀ {H' : Hp} {zs : List V}, H' l = some (.lst zs) → ∀ xs, H' l ≠ some (.tup xs) := fun e xs e' => by rw [e] at e'; cases e'
    cases p3 with
    | @one _ x w3 ts4 hx ho hw3 =>
      walk_at "rd"
      refine iff' (nF (kind_var hx)) ?_
      walk_at "rd"
      refine rd_bm rfl e3 ?_
      walk_at "rd"
      refine rd_app e3 (by rw [List.length_map]; exact small1000 (by omega)) ?_
      have r4 := r3.mut (u := .lst (ys.map V.str ++ [V.str x])) e3 n2 n3
      walk_at "rd"
      refine ⟨R, sa, _, _, _, sc, rfl, r4, ho, fun H5 f5 r5 => ?_⟩
      have e5 : H5 l = some (.lst (xs.map V.str)) := by
        rw [f5 _ _ n1 upd_same, hall, List.map_append] <;> rfl
      have f5' : Fx R.r H H5 := (Fx.mut f3 hl0).trans f5
      have ec : o + ys.length + 1 = o + xs.length := by
        rw [hall, List.length_append] <;> rfl
      rw [ec] at r5
      walk_at "rd"
      refine ift (nT hw3) ?_
      walk_at "rd"
      refine ⟨R, sa, _, _, _, sc, rfl, r5, by decide +kernel, fun H6 f6 r6 => ?_⟩
      have e6 : H6 l = some (.lst (xs.map V.str)) := f6 _ _ n1 e5
      walk_at "rd"
      refine rd_cat r6.scp e6 ?_ fun sb H7 hb7 x7 e7 => ?_
      · rw [List.length_map, List.length_map]
        exact Nat.le_of_lt (Nat.lt_of_le_of_lt (show _ ≤ 2000 by omega) (by decide))
      have r7 := r6.ex x7
      have e7' : H7 sb = some (.lst ((sc ++ xs).map V.str)) := by rw [e7, List.map_append]
      walk_at "rd"
      refine rd_setSc T r7 e7' fun H8 f8 r8 => ?_
      walk_at "rd"
      refine ⟨R, sb, _, _, _, _, _, _, rfl, r8, p1, fun b9 v9 H9 f9 r9 e9 d9 => ?_⟩
      walk_at "rd"
      refine rd_newT fun b10 H10 hb10 x10 e10 => ?_
      walk_at "rd"
      refine rd_inT (xs := enders.map V.str) (st_of e10) rfl (flat_strs _) ?_
      rw [if_pos rfl, inV_strs, decide_eq_true hw]
      walk_at "rd"
      refine iff' rfl ?_
      have sa10 : H10 sa = some (.lst (sc.map V.str)) := x10 _ _ (f9 _ _ r6.saNe (f8 _ _ r6.saNe (x7 _ _ r6.scp)))
      have l10 : H10 l = some (.lst (xs.map V.str)) := x10 _ _ (f9 _ _ n1 (f8 _ _ n1 (x7 _ _ e6)))
      have r10 := r9.ex x10
      walk_at "rd"
      refine rd_setSc T r10 sa10 fun H11 f11 r11 => ?_
      have d11 := r10.dp f11 (p1.flat trivial) (dp_ex x10 _ d9)
      have F11 : Fx R.r H H11 := ((((f5'.trans f6).ex x7).trans f8).trans f9).ex x10 |>.trans f11
      have l11 : H11 l = some (.lst (xs.map V.str)) := f11 _ _ n1 l10
      refine ⟨_, rfl, l, xs.map V.str, rfl, sl_of l11, RT.for_Itv (xs := xs.map V.str) (QrW K R H sa l qw o h1 φ1 sc xs (w :: ts2)) ⟨v9, none, Nat.zero_le _, rfl, F11, l11, ?_, ?_⟩ ?_ ?_ ?_⟩
      · rw [Nat.sub_zero, List.drop_length]
        exact d11
      · rw [Nat.sub_zero]
        exact r11
      · rintro i σ H' ⟨v, z, _, _, _, e, _⟩
        exact sl_of e
      · rintro i x0 σ H' hi hx0 ⟨v, z, hle, rfl, f12, e12, d12, r12⟩
        rw [List.length_map] at hi hx0
        obtain ⟨y, hy, ey⟩ := name_at hi hx0
        subst ey
        walk_at "rd"
        refine rd_newT fun b13 H13 hb13 x13 e13 => ?_
        have r13 := r12.ex x13
        rw [show o + (xs.length - i) = o + (xs.length - (i + 1)) + 1 by omega] at r13
        walk_at "rd"
        refine ⟨R, sa, _, _, sc, rfl, r13, fun H14 f14 r14 => ?_⟩
        have l14 : H14 l = some (.lst (xs.map V.str)) := f14 _ _ n1 (x13 _ _ e12)
        have d13 : Dp K H13 (.ref b13) (quD qw (xs.drop (xs.length - (i + 1))) φ1) := by
          rw [hy]
          exact dp3 e13 (.str _) (dp_ex x13 _ d12)
        refine ⟨.ref b13, some (.str y), by omega, ?_, (f12.ex x13).trans f14, l14, r13.dp f14 (flatQ (p1.flat trivial) _) d13, r14⟩
        have e : (((h1 + i : Nat) : Int) + 1) = ((h1 + (i + 1) : Nat) : Int) := by omega
        show [some (V.ref R.r), some (V.str qw), some (V.ref l), some (V.ref sa), some (V.int (((h1 + i : Nat) : Int) + 1)), some (V.ref b13), some (V.str y)] = _
        rw [e]
      · rintro σ H' ⟨v, z, hle, rfl, f12, e12, d12, r12⟩
        rw [List.length_map] at r12 d12
        rw [Nat.sub_self] at r12 d12
        walk_at "rd"
        refine rd_newT fun b13 H13 hb13 x13 e13 => ?_
        rw [List.length_map] at e13
        exact q _ _ H13 (f12.ex x13) (r12.ex x13) e13 (dp_ex x13 _ d12)
    | @more _ x c ts4 xs4 _ hx ho hc p4 =>
      subst hc
      walk_at "rd"
      refine iff' (nF (kind_var hx)) ?_
      walk_at "rd"
      refine rd_bm rfl e3 ?_
      walk_at "rd"
      refine rd_app e3 (by rw [List.length_map]; exact small1000 (by omega)) ?_
      have r4 := r3.mut (u := .lst (ys.map V.str ++ [V.str x])) e3 n2 n3
      walk_at "rd"
      refine ⟨R, sa, _, _, _, sc, rfl, r4, ho, fun H5 f5 r5 => ?_⟩
      have e5 : H5 l = some (.lst ((ys ++ [x]).map V.str)) := by
        rw [f5 _ _ n1 upd_same, List.map_append] <;> rfl
      walk_at "rd"
      refine iff' (nF rfl) ?_
      walk_at "rd"
      refine rd_augAt T r5 rfl fun H6 f6 r6 => ?_
      refine ⟨ts4.length, ?_, ys ++ [x], xs4, ts4, rfl, rfl, ((Fx.mut f3 hl0).trans f5).trans f6, f6 _ _ n1 e5, ?_, ?_, ?_⟩
      · simp only [List.length_cons]; omega
      · rw [hall]; simp
      · rw [List.length_append]; exact r6
      · rw [List.length_append]; exact p4
end
end Ele
end
section
set_option Elab.async false
set_option linter.all false
set_option maxRecDepth 100000
set_option maxHeartbeats 2000000
namespace Ele
open PySem PySem.Spec PyProof.Rows L2
section
variable {σ : L2.St} {H : Hp} {D : Ends} {x y v : V} {Q : VK} {ta tb te : TE} {tl : TA} {i j : Int} {k : Nat}
theorem rd_sl {r : V → Option Int → Option Int → Hp → VK → Prop} {tlo thi : TO} (q : te σ H fun x H1 => tlo σ H1 fun l H2 => thi σ H2 fun u H3 => r x l u H3 Q) : tSl r te tlo thi σ H Q := q
theorem rd_part {Q : Option Int → Hp → Prop} (q : te σ H fun x H1 => ∃ i, x = .int i ∧ Q (some i) H1) : tPart te σ H Q := q
theorem rd_pi {Q : Int → Prop} (q : Q j) : ∃ i, V.int j = V.int i ∧ Q i := ⟨j, rfl, q⟩
theorem rd_slS {z : Str} {lo hi : Option Int} (h : z.length ≤ sizeLine) (q : Q (.str (cutS z lo hi)) H) : rSlS (.str z) lo hi H Q := ⟨z, rfl, h, q⟩
end
/-! ### the class made -/
def tMk (K : PySem.W.Frag) (sp : Sp) (t : TA) : TE := fun σ H Q => t σ H fun vs H1 => ∀ x dx, H1 x = none → H1 dx = none → dx ≠ x → sp (.ref x :: vs) (upd (upd H1 dx (.own x)) x (.ins (CF K) dx [])) (fun v H2 => v = .non ∧ Q (.ref x) H2) E0
theorem qmk {X : Cx} {e : Expr} {es : List Expr} {t : TA} {pos p : Pos} {P : Program} {w : World} {K : PySem.W.Frag} {mg : Str → Option Value} {base : Heap} {k : Nat} {ps : List Str} {sp : Sp} (T : Txt K mg) (O : Ok P w K mg base k (mth K "__init__") ps sp) (hr : Room (k + 1) X.A) (ha : PA X (e :: es) t)
    (hg : Gl X "FormulaReader" := by rfl) (h1 : X.prog = P := by rfl) (h2 : X.w = w := by rfl) (hK : X.K = K := by rfl) (h3 : X.mg = mg := by rfl) (h4 : X.base = base := by rfl)
    (he : starEach (e :: es) X.env = (false, eval e X.env) :: starEach es X.env := by rfl) (hpl : (backTo pos (starEach es X.env)).any (·.1) = false := by rfl) : PE X (.Call (.Name "FormulaReader" p) (e :: es) [] pos) (tMk K sp t) := by
  subst h1 h2 hK h3 h4
  obtain ⟨fd, F, b⟩ := O.ex
  refine ⟨fun pins s σ H Q I h => (pe_make T.mkr F hr hg (T.glo _ gm_FormulaReader) b .nil pass0 ha (by decide) he hpl).run pins s σ H Q I ?_⟩
  unfold tMake
  simp only [List.append_nil]
  exact h
theorem rd_mk {K : PySem.W.Frag} {sp : Sp} {t : TA} {σ : L2.St} {H : Hp} {Q : VK} (q : t σ H fun vs H1 => ∀ x dx, H1 x = none → H1 dx = none → dx ≠ x → sp (.ref x :: vs) (upd (upd H1 dx (.own x)) x (.ins (CF K) dx [])) (fun v H2 => v = .non ∧ Q (.ref x) H2) E0) : tMk K sp t σ H Q := q
/-! ### texts by their codes -/
theorem at_code {z : Str} {pre r : List Nat} {c : Nat} (h : tlw z = pre ++ c :: r) : atI z.cps.toList ((pre.length : Nat) : Int) = some c := by
  refine atI_nat ?_
  show (tlw z)[pre.length]? = some c
  rw [h, List.getElem?_append_right (Nat.le_refl _), Nat.sub_self] <;> rfl
theorem cut_code {z w : Str} {pre cs : List Nat} (h : tlw z = pre ++ (tlw w ++ cs)) {a b : Int} (ha : a = (pre.length : Nat)) (hb : b = ((pre.length + w.length : Nat) : Int)) : cutS z (some a) (some b) = w := by
  subst ha hb
  apply ext_w
  show (((tlw z).drop (HT.sIx z.length 0 (some ((pre.length : Nat) : Int)))).take (HT.sIx z.length z.length (some ((pre.length + w.length : Nat) : Int)) - HT.sIx z.length 0 (some ((pre.length : Nat) : Int)))).toArray.toList = tlw w
  have hl : z.length = pre.length + (w.length + cs.length) := by rw [← tlw_len, h, List.length_append, List.length_append, tlw_len]
  rw [HT.sIx_nat, HT.sIx_nat, hl, show min pre.length (pre.length + (w.length + cs.length)) = pre.length by omega, show min (pre.length + w.length) (pre.length + (w.length + cs.length)) - pre.length = w.length by omega, h, List.drop_left, ← tlw_len w, List.take_left]
/-- the first sign of a longer cut -/
theorem cut_head {z : Str} {pre r : List Nat} {c : Nat} (h : tlw z = pre ++ c :: r) {a b : Int} {n : Nat} (ha : a = (pre.length : Nat)) (hb : b = ((pre.length + (n + 1) : Nat) : Int)) : ∃ r', tlw (cutS z (some a) (some b)) = c :: r' := by
  subst ha hb
  show ∃ r', (((tlw z).drop (HT.sIx z.length 0 (some ((pre.length : Nat) : Int)))).take (HT.sIx z.length z.length (some ((pre.length + (n + 1) : Nat) : Int)) - HT.sIx z.length 0 (some ((pre.length : Nat) : Int)))).toArray.toList = c :: r'
  have hl : z.length = pre.length + (r.length + 1) := by rw [← tlw_len, h, List.length_append, List.length_cons]
  rw [HT.sIx_nat, HT.sIx_nat, hl, show min pre.length (pre.length + (r.length + 1)) = pre.length by omega, h, List.drop_left]
  refine ⟨r.take (min (pre.length + (n + 1)) (pre.length + (r.length + 1)) - pre.length - 1), ?_⟩
  obtain ⟨k, hk⟩ : ∃ k, min (pre.length + (n + 1)) (pre.length + (r.length + 1)) - pre.length = k + 1 := ⟨min n r.length, by omega⟩
  rw [hk] <;> rfl
theorem code_mem {l : List Nat} {f : Nat → Bool} (h : ∀ c, c < 128 → decide (c ∈ l) = f c) (h1 : ∀ c ∈ l, c < 128) (h2 : ∀ c, 128 ≤ c → f c = false) (c : Nat) : decide (c ∈ l) = f c := by
  by_cases hc : c < 128
  · exact h c hc
  · rw [h2 c (by omega)]
    exact decide_eq_false fun hm => hc (h1 c hm)
theorem small_hi (c : Nat) (h : 128 ≤ c) : small c = false := by
  simp only [small, Bool.and_eq_false_iff, decide_eq_false_iff_not]
  exact .inr (by omega)
theorem cap_hi (c : Nat) (h : 128 ≤ c) : capital c = false := by
  simp only [capital, Bool.and_eq_false_iff, decide_eq_false_iff_not]
  exact .inr (by omega)
theorem word_hi (c : Nat) (h : 128 ≤ c) : wordc c = false := by
  unfold wordc
  rw [small_hi c h, cap_hi c h]
  simp only [Bool.false_or, Bool.or_eq_false_iff, Bool.and_eq_false_iff, decide_eq_false_iff_not]
  exact ⟨.inr (by omega), by omega⟩
theorem small_mem (c : Nat) : decide (c ∈ (Str.ofString "abcdefghijklmnopqrstuvwxyz").cps.toList) = small c := code_mem (by decide +kernel) (by decide +kernel) small_hi c
theorem cap_mem (c : Nat) : decide (c ∈ (Str.ofString "ABCDEFGHIJKLMNOPQRSTUVWXYZ").cps.toList) = capital c := code_mem (by decide +kernel) (by decide +kernel) cap_hi c
theorem word_mem (c : Nat) : decide (c ∈ (Str.ofString "abcdefghijklmnopqrstuvwxyzABCDEFGHIJKLMNOPQRSTUVWXYZ0123456789_").cps.toList) = wordc c := code_mem (by decide +kernel) (by decide +kernel) word_hi c
theorem letter_mem (c : Nat) : decide (c ∈ (Str.ofString "abcdefghijklmnopqrstuvwxyzABCDEFGHIJKLMNOPQRSTUVWXYZ").cps.toList) = (small c || capital c) := code_mem (f := fun c => small c || capital c) (by decide +kernel) (by decide +kernel) (fun c h => by show (small c || capital c) = false; rw [small_hi c h, cap_hi c h]; rfl) c
theorem sign_heads : ∀ s ∈ signs, ∀ w ∈ signs, (tlw s).head? = (tlw w).head? → s = w := by decide +kernel
theorem sign_len : ∀ s ∈ signs, 1 ≤ s.length ∧ s.length ≤ 3 := by decide +kernel
theorem kind_sign : ∀ s ∈ signs, kindOf s = "sign" := by decide +kernel
theorem one_ne {c : Nat} {s : Str} {k : Nat} (hs : tlw s = [k]) (h : c ≠ k) : (⟨#[c]⟩ : Str) ≠ s := fun e => by
  rw [← e] at hs
  have hs : [c] = [k] := hs
  exact h (List.cons.inj hs).1
theorem one_eq {c : Nat} {s : Str} {k : Nat} (hs : tlw s = [k]) (h : c = k) : (⟨#[c]⟩ : Str) = s := by
  subst h
  exact ext_w hs.symm
theorem RowAt.snoc {H : Hp} {l : Addr} {all : List Str} (h : RowAt H l all) {t : Addr} {w : Str} {a b : Int} {xs : List V} (e : H l = some (.lst xs)) (ht : H t = some (.tup [.str (kindOf w), .str w, .int a, .int b])) : RowAt (upd H l (.lst (xs ++ [.ref t]))) l (all ++ [w]) := by
  obtain ⟨ys, h1, h2, h3⟩ := h
  rw [e] at h1
  cases h1
  have nl : ∀ {u : Addr} {zs : List V}, H u = some (.tup zs) → u ≠ l := fun hu => ne_of hu e (fun q => nomatch q)
  refine ⟨_, upd_same, by rw [List.length_append, List.length_append, h2] <;> rfl, fun i v hv => ?_⟩
  by_cases hi : i < all.length
  · rw [List.getElem?_append_left hi] at hv
    obtain ⟨t', l', c', e1, e2⟩ := h3 i v hv
    exact ⟨t', l', c', by rw [List.getElem?_append_left (by omega)]; exact e1, by rw [upd_ne (nl e2)]; exact e2⟩
  · rw [List.getElem?_append_right (by omega)] at hv
    obtain ⟨hi2, hv2⟩ := List.getElem?_eq_some_iff.mp hv
    have e0 : i - all.length = 0 := by
      rw [List.length_singleton] at hi2
      omega
    have ev : v = w := by
      rw [e0] at hv
      exact (Option.some.inj hv).symm
    subst ev
    refine ⟨t, a, b, ?_, by rw [upd_ne (nl ht)]; exact ht⟩
    rw [List.getElem?_append_right (by omega), show i - xs.length = 0 by omega] <;> rfl
theorem RowAt.exs {H H' : Hp} {l : Addr} {all : List Str} (h : RowAt H l all) (x : Ex H H') : RowAt H' l all := by
  obtain ⟨xs, a, b, c⟩ := h
  refine ⟨xs, x _ _ a, b, fun i w e => ?_⟩
  obtain ⟨t, l, n, e1, e2⟩ := c i w e
  exact ⟨t, l, n, e1, x _ _ e2⟩
end Ele
end
section
set_option Elab.async false
set_option linter.all false
set_option maxRecDepth 100000
set_option maxHeartbeats 2000000
local macro_rules | `(tactic| walk_at "rd") => `(tactic| repeat (first
  | with_reducible refine' Ele.rd_seq ?_
  | with_reducible refine' Ele.rd_asg ?_
  | with_reducible refine' Ele.rd_name ?_
  | with_reducible refine' Ele.rd_op ?_
  | ((with_reducible refine' Ele.rd_var ?hv ?_); (case hv => rfl))
  | with_reducible refine' Ele.rd_c ?_
  | with_reducible refine' Ele.rd_rI0 ?_
  | ((with_reducible refine' Ele.rd_eq ?hs ?_); (case hs => rfl))
  | ((with_reducible refine' Ele.rd_ne ?hs ?_); (case hs => rfl))
  | with_reducible refine' Ele.rd_test ?_
  | with_reducible refine' Ele.rd_k ?_
  | with_reducible refine' Ele.rd_if ?_
  | with_reducible refine' Ele.rd_drop ?_
  | with_reducible refine' Ele.rd_ret ?_
  | with_reducible refine' Ele.rd_retN ?_
  | with_reducible refine' Ele.rd_next ?_
  | with_reducible refine' Ele.rd_brk ?_
  | ((with_reducible refine' Ele.rd_aug ?hs ?_); (case hs => rfl))
  | with_reducible refine' Ele.rd_ipI ?_
  | with_reducible refine' Ele.rd_cons ?_
  | with_reducible refine' Ele.rd_nil ?_
  | with_reducible refine' Ele.rd_cl ?_
  | with_reducible refine' Ele.rd_cb ?_
  | with_reducible refine' Ele.rd_tup ?_
  | with_reducible refine' Ele.rd_lst ?_
  | with_reducible refine' Ele.rd_not ?_
  | with_reducible refine' Ele.rd_notV ?_
  | with_reducible refine' Ele.rd_and ?_
  | with_reducible refine' Ele.rd_or ?_
  | with_reducible refine' Ele.rd_andV ?_
  | with_reducible refine' Ele.rd_orV ?_
  | with_reducible refine' Ele.rd_add ?_
  | with_reducible refine' Ele.rd_max ?_
  | with_reducible refine' Ele.rd_int ?_
  | with_reducible refine' Ele.rd_tB ?_
  | with_reducible refine' Ele.rd_un ?_
  | ((with_reducible refine' Ele.rd_lenL ?h ?_); (case h => exact Ele.sl_of (by assumption)))
  | ((with_reducible refine' Ele.rd_lenT ?h ?_); (case h => exact Ele.st_of (by assumption)))
  | ((with_reducible refine' Ele.rd_lenS ?h ?_); (case h => assumption))
  | with_reducible refine' Ele.rd_sl ?_
  | with_reducible refine' Ele.rd_part ?_
  | with_reducible refine' Ele.rd_pi ?_
  | ((with_reducible refine' Ele.rd_slS ?h ?_); (case h => assumption))
  | with_reducible refine' Ele.rd_inC ?_
  | with_reducible refine' Ele.rd_fld ?_
  | with_reducible refine' Ele.rd_mt0 ?_
  | ((with_reducible refine' Ele.rd_row ?hT ?hR ?_); (case hT => assumption); (case hR => assumption))
  | ((with_reducible refine' Ele.rd_at ?hT ?hR ?_); (case hT => assumption); (case hR => assumption))
  | ((with_reducible refine' Ele.rd_opc ?hT ?hR ?_); (case hT => assumption); (case hR => assumption))
  | ((with_reducible refine' Ele.rd_scp ?hT ?hR ?_); (case hT => assumption); (case hR => assumption))
  | ((with_reducible refine' Ele.rd_mt ?hR ?hm ?_); (case hR => assumption); (case hm => decide +kernel))
  | ((with_reducible refine' Ele.rd_word ?hR ?_); (case hR => assumption))
  | ((with_reducible refine' Ele.rd_kind ?hR ?_); (case hR => assumption))
  | ((with_reducible refine' Ele.rd_gtup2 ?h ?hn ?_); (case h => assumption); (case hn => rfl))
  | with_reducible refine' Ele.rd_gcons ?_
  | with_reducible refine' Ele.rd_gnil ?_
  | with_reducible refine' Ele.rd_gsub ?_
  | with_reducible refine' Ele.rd_fldset ?_
  ))
namespace Ele
open PySem PySem.Spec PyProof.Rows L2
def spWordAt : Sp := fun vs H Q _ => ∃ (z w : Str) (pre cs : List Nat), vs = [.str z, .int (pre.length : Nat)] ∧ z.length ≤ sizeLine ∧ tlw z = pre ++ (tlw w ++ cs) ∧ (∀ c ∈ tlw w, wordc c = true) ∧ (∀ c r, cs = c :: r → wordc c = false) ∧ Q (.str w) H
def spLineEnd : Sp := fun vs H Q _ => ∃ (z : Str) (pre r cs : List Nat), vs = [.str z, .int (pre.length : Nat)] ∧ z.length ≤ sizeLine ∧ tlw z = pre ++ (r ++ 10 :: cs) ∧ (∀ c ∈ r, c ≠ 10) ∧ Q (.int ((pre.length + r.length : Nat) : Int)) H
def TokW (w : Str) (cs : List Nat) : Prop := (isW w = true ∧ (∀ c ∈ tlw w, wordc c = true) ∧ ∀ c r, cs = c :: r → wordc c = false) ∨ w ∈ signs
def spTokenAt : Sp := fun vs H Q _ => ∃ (z w : Str) (pre cs : List Nat), vs = [.str z, .int (pre.length : Nat)] ∧ z.length ≤ sizeLine ∧ tlw z = pre ++ (tlw w ++ cs) ∧ TokW w cs ∧ ∀ p H', Ex H H' → H' p = some (.tup [.str (kindOf w), .str w]) → Q (.ref p) H'
/-- in a word, k signs taken -/
def WdW (z w : Str) (a : Nat) (H0 : Hp) (m : Nat) (σ : L2.St) (H : Hp) : Prop := ∃ k, k ≤ w.length ∧ m = w.length - k ∧ H = H0 ∧ σ = [some (.str z), some (.int (a : Nat)), some (.int ((a + k : Nat) : Int))]
def LeW (z : Str) (a n : Nat) (H0 : Hp) (m : Nat) (σ : L2.St) (H : Hp) : Prop := ∃ k, k ≤ n ∧ m = n - k ∧ H = H0 ∧ σ = [some (.str z), some (.int ((a + k : Nat) : Int))]
theorem zlen {z : Str} {a b : List Nat} (h : tlw z = a ++ b) : z.length = a.length + b.length := by rw [← tlw_len, h, List.length_append]
section
variable {P : Program} {w : World} {K : PySem.W.Frag} {mg : Str → Option Value} {base : Heap} {n : Nat}
abbrev N_word_at : List Str := ["text", "at", "end"]
theorem sc_word_at : FnScope N_word_at ["text", "at"] (defScope s_word_at) := ⟨rfl, rfl, rfl, by decide +kernel, rfl, by decide +kernel, by decide +kernel⟩
theorem ok_word_at (T : Txt K mg) (F : Fd K d_word_at) : Ok P w K mg base 1 (He.ga K "_word_at") ["text", "at"] spWordAt := by
  refine ok_mk F sc_word_at (fun _ _ _ _ _ _ us hl => match us, hl with | [_, _], _ => rfl) (fun vs H Q E h => ?_) (fun f cdv A outer s H vs Q E hr h => ?_)
  · obtain ⟨_, _, _, _, rfl, _⟩ := h
    rfl
  obtain ⟨z, w, pre, cs, rfl, hz, e, hw, hc, q⟩ := h
  refine ⟨_, (pss_cons (ps_set (i := 2) sc_word_at.nd rfl (Or.inl rfl) (pv 1))
  (pss_cons (ps_while PassesOwn.never (PW.pt (pw_and (qtst op_lt (pv 2) (qcb qlenS T fm_len bl_len (pa_cons (pv 0) pa_nil))) (pw_and1 (qtst qinC (qis (pv 0) (pv 2)) (qgs T.cWord))))) (pss_one (ps_aug (i := 2) sc_word_at.nd rfl (Or.inl rfl) pe_int ip_add)))
  (pss_one (ps_ret (pe_slice sl_str (pv 0) (po_some (pv 1)) (po_some (pv 2))))))), ?_⟩
  walk_at "rd"
  have hl := zlen e
  rw [List.length_append, tlw_len] at hl
  refine ⟨WdW z w pre.length H, ⟨w.length, 0, Nat.zero_le _, rfl, rfl, rfl⟩, ?_⟩
  rintro m σ H1 ⟨k, hk, rfl, rfl, rfl⟩
  walk_at "rd"
  by_cases hkw : k < w.length
  · refine ift (decide_eq_true (by omega)) ?_
    have hk2 : k < (tlw w).length := by rw [tlw_len]; exact hkw
    have ec : tlw z = (pre ++ (tlw w).take k) ++ ((tlw w)[k] :: ((tlw w).drop (k + 1) ++ cs)) := by
      rw [e, List.append_assoc, ← List.cons_append, ← List.drop_eq_getElem_cons hk2, ← List.append_assoc (List.take k _), List.take_append_drop]
    have e1 := at_code ec
    rw [List.length_append, List.length_take, Nat.min_eq_left (Nat.le_of_lt hk2)] at e1
    walk_at "rd"
    refine rd_ixS hz e1 ?_
    walk_at "rd"
    refine ift (by rw [word_mem]; exact hw _ (List.getElem_mem hk2)) ?_
    refine ⟨fun σ2 H2 => ∃ m', m' < w.length - k ∧ WdW z w pre.length H1 m' σ2 H2, fun _ _ h => h, ?_⟩
    walk_at "rd"
    refine ⟨w.length - (k + 1), by omega, k + 1, hkw, rfl, rfl, ?_⟩
    show [some (V.str z), some (V.int _), some (V.int (((pre.length + k : Nat) : Int) + 1))] = _
    rw [show (((pre.length + k : Nat) : Int) + 1) = ((pre.length + (k + 1) : Nat) : Int) by omega]
  · have ek : k = w.length := by omega
    subst ek
    have fin : Q (.str w) H1 := q
    have ecut : cutS z (some ((pre.length : Nat) : Int)) (some ((pre.length + w.length : Nat) : Int)) = w := cut_code e rfl rfl
    cases cs with
    | nil =>
      refine iff' (decide_eq_false (by rw [List.length_nil] at hl; omega)) ?_
      refine iff' rfl ?_
      walk_at "rd"
      rw [ecut]
      exact fin
    | cons c r =>
      refine ift (decide_eq_true (by rw [List.length_cons] at hl; omega)) ?_
      have ec : tlw z = (pre ++ tlw w) ++ c :: r := by rw [e, List.append_assoc]
      have e1 := at_code ec
      rw [List.length_append, tlw_len] at e1
      walk_at "rd"
      refine rd_ixS hz e1 ?_
      walk_at "rd"
      refine iff' (by rw [word_mem]; exact hc c r rfl) ?_
      walk_at "rd"
      rw [ecut]
      exact fin
abbrev N_line_end : List Str := ["text", "at"]
theorem sc_line_end : FnScope N_line_end ["text", "at"] (defScope s_line_end) := ⟨rfl, rfl, rfl, by decide +kernel, rfl, by decide +kernel, by decide +kernel⟩
theorem ok_line_end (T : Txt K mg) (F : Fd K d_line_end) : Ok P w K mg base 1 (He.ga K "_line_end") ["text", "at"] spLineEnd := by
  refine ok_mk F sc_line_end (fun _ _ _ _ _ _ us hl => match us, hl with | [_, _], _ => rfl) (fun vs H Q E h => ?_) (fun f cdv A outer s H vs Q E hr h => ?_)
  · obtain ⟨_, _, _, _, rfl, _⟩ := h
    rfl
  obtain ⟨z, pre, r, cs, rfl, hz, e, hw, q⟩ := h
  refine ⟨_, (pss_cons (ps_while PassesOwn.never (PW.pt (pw_and (qtst op_lt (pv 1) (qcb qlenS T fm_len bl_len (pa_cons (pv 0) pa_nil))) (pw_and1 (qtst op_ne (qis (pv 0) (pv 1)) pe_str)))) (pss_one (ps_aug (i := 1) sc_line_end.nd rfl (Or.inl rfl) pe_int ip_add)))
  (pss_one (ps_ret (pv 1)))), ?_⟩
  walk_at "rd"
  have hl := zlen e
  rw [List.length_append, List.length_cons] at hl
  refine ⟨LeW z pre.length r.length H, ⟨r.length, 0, Nat.zero_le _, rfl, rfl, rfl⟩, ?_⟩
  rintro m σ H1 ⟨k, hk, rfl, rfl, rfl⟩
  walk_at "rd"
  refine ift (decide_eq_true (by omega)) ?_
  by_cases hkw : k < r.length
  · have ec : tlw z = (pre ++ r.take k) ++ (r[k] :: (r.drop (k + 1) ++ 10 :: cs)) := by
      rw [e, List.append_assoc, ← List.cons_append, ← List.drop_eq_getElem_cons hkw, ← List.append_assoc (List.take k _), List.take_append_drop]
    have e1 := at_code ec
    rw [List.length_append, List.length_take, Nat.min_eq_left (Nat.le_of_lt hkw)] at e1
    walk_at "rd"
    refine rd_ixS hz e1 ?_
    walk_at "rd"
    refine ift (nT (one_ne (k := 10) (by decide +kernel) (hw _ (List.getElem_mem hkw)))) ?_
    refine ⟨fun σ2 H2 => ∃ m', m' < r.length - k ∧ LeW z pre.length r.length H1 m' σ2 H2, fun _ _ h => h, ?_⟩
    walk_at "rd"
    refine ⟨r.length - (k + 1), by omega, k + 1, hkw, rfl, rfl, ?_⟩
    show [some (V.str z), some (V.int (((pre.length + k : Nat) : Int) + 1))] = _
    rw [show (((pre.length + k : Nat) : Int) + 1) = ((pre.length + (k + 1) : Nat) : Int) by omega]
  · have ek : k = r.length := by omega
    subst ek
    have ec : tlw z = (pre ++ r) ++ 10 :: cs := by rw [e, List.append_assoc]
    have e1 := at_code ec
    rw [List.length_append] at e1
    walk_at "rd"
    refine rd_ixS hz e1 ?_
    walk_at "rd"
    refine iff' (nF (one_eq (k := 10) (by decide +kernel) rfl)) ?_
    walk_at "rd"
    exact q
/-- among the signs: none matched so far -/
def SgW (z : Str) (a k : Nat) (H0 : Hp) (i : Nat) (σ : L2.St) (H : Hp) : Prop := i ≤ k ∧ H = H0 ∧ ∃ x, σ = [some (.str z), some (.int (a : Nat)), x]
theorem isW_head {w : Str} (h : isW w = true) : ∃ c r, tlw w = c :: r ∧ (small c || capital c) = true ∧ isName w = small c := by
  cases e : tlw w with
  | nil =>
    unfold isW isName isVar at h
    rw [e] at h
    cases h
  | cons c r =>
    refine ⟨c, r, rfl, ?_, ?_⟩
    · unfold isW isName isVar at h
      rw [e] at h
      exact h
    · unfold isName
      rw [e]
abbrev N_token_at : List Str := ["text", "at", "sign"]
theorem sc_token_at : FnScope N_token_at ["text", "at"] (defScope s_token_at) := ⟨rfl, rfl, rfl, by decide +kernel, rfl, by decide +kernel, by decide +kernel⟩
theorem ok_token_at (T : Txt K mg) (F : Fd K d_token_at) (O_word_at : Ok P w K mg base 1 (He.ga K "_word_at") ["text", "at"] spWordAt) : Ok P w K mg base 2 (He.ga K "_token_at") ["text", "at"] spTokenAt := by
  refine ok_mk F sc_token_at (fun _ _ _ _ _ _ us hl => match us, hl with | [_, _], _ => rfl) (fun vs H Q E h => ?_) (fun f cdv A outer s H vs Q E hr h => ?_)
  · obtain ⟨_, _, _, _, rfl, _⟩ := h
    rfl
  obtain ⟨z, w, pre, cs, rfl, hz, e, ht, q⟩ := h
  refine ⟨_, (pss_cons (ps_if (qtst qinC (qis (pv 0) (pv 1)) (qgs T.cSmall)) (pss_one (ps_ret (pe_tup (pa_cons pe_str (pa_cons (qc T gm_word_at O_word_at (hr.mono (by omega)) (pa_cons (pv 0) (pa_cons (pv 1) pa_nil))) pa_nil))))) pss_nil)
  (pss_cons (ps_if (qtst qinC (qis (pv 0) (pv 1)) (qgs T.cCap)) (pss_one (ps_ret (pe_tup (pa_cons pe_str (pa_cons (qc T gm_word_at O_word_at (hr.mono (by omega)) (pa_cons (pv 0) (pa_cons (pv 1) pa_nil))) pa_nil))))) pss_nil)
  (pss_cons (ps_for PassesOwn.never rfl (qpt K (qgr T gm_SIGNS)) (pg_name (i := 2) sc_token_at.nd rfl (Or.inl rfl)) (pss_one (ps_if (qtst op_eq (pe_slice sl_str (pv 0) (po_some (pv 1)) (po_some (pe_op op_add (pv 1) (qcb qlenS T fm_len bl_len (pa_cons (pv 2) pa_nil))))) (pv 2)) (pss_one (ps_ret (pe_tup (pa_cons pe_str (pa_cons (pv 2) pa_nil))))) pss_nil)))
  (pss_one (ps_ret (pe_tup (pa_cons pe_str (pa_cons pe_str pa_nil)))))))), ?_⟩
  rcases ht with ⟨h1, h2, h3⟩ | h1
  · obtain ⟨c, r, ec, hl, hn⟩ := isW_head h1
    have e1 : tlw z = pre ++ c :: (r ++ cs) := by rw [e, ec] <;> rfl
    have e1 := at_code e1
    walk_at "rd"
    refine rd_ixS hz e1 ?_
    walk_at "rd"
    cases hs : small c with
    | true =>
      refine ift (by rw [small_mem, hs]) ?_
      walk_at "rd"
      refine ⟨z, w, pre, cs, rfl, hz, e, h2, h3, ?_⟩
      walk_at "rd"
      refine rd_newT fun p H2 hp x2 e2 => ?_
      refine q p H2 x2 ?_
      rw [kind_name (by rw [hn, hs])]
      exact e2
    | false =>
      refine iff' (by rw [small_mem, hs]) ?_
      walk_at "rd"
      refine rd_ixS hz e1 ?_
      walk_at "rd"
      have hc : capital c = true := by
        rw [hs] at hl
        exact hl
      refine ift (by rw [cap_mem, hc]) ?_
      walk_at "rd"
      refine ⟨z, w, pre, cs, rfl, hz, e, h2, h3, ?_⟩
      walk_at "rd"
      refine rd_newT fun p H2 hp x2 e2 => ?_
      refine q p H2 x2 ?_
      rw [kind_var (by unfold isVar; rw [ec]; exact hc)]
      exact e2
  · obtain ⟨c, r, ec, hw, hn⟩ := sign_head h1
    have e0 : tlw z = pre ++ c :: (r ++ cs) := by rw [e, ec] <;> rfl
    have e1 := at_code e0
    have hnw : small c = false ∧ capital c = false := by
      unfold wordc at hw
      simp only [Bool.or_eq_false_iff] at hw
      exact ⟨hw.1.1.1, hw.1.1.2⟩
    obtain ⟨k, hk, ek⟩ := List.getElem_of_mem h1
    walk_at "rd"
    refine rd_ixS hz e1 ?_
    walk_at "rd"
    refine iff' (by rw [small_mem, hnw.1]) ?_
    walk_at "rd"
    refine rd_ixS hz e1 ?_
    walk_at "rd"
    refine iff' (by rw [cap_mem, hnw.2]) ?_
    walk_at "rd"
    refine ⟨_, rfl, ⟨_, T.sg _⟩, for_tup (xs := signs.map V.str) (SgW z pre.length k H) ⟨Nat.zero_le _, rfl, none, rfl⟩ (fun i σ H' _ _ => T.sg _) ?_ ?_⟩
    · rintro i x0 σ H' hx ⟨hi, rfl, y, rfl⟩
      obtain ⟨s, hs, rfl⟩ : ∃ s, signs[i]? = some s ∧ x0 = V.str s := by
        rw [List.getElem?_map] at hx
        cases hq : signs[i]? with
        | none => rw [hq] at hx; cases hx
        | some s => rw [hq] at hx; exact ⟨s, rfl, (Option.some.inj hx).symm⟩
      have hsm : s ∈ signs := List.mem_of_getElem? hs
      obtain ⟨hs1, hs3⟩ := sign_len s hsm
      have hsz : s.length ≤ sizeLine := Nat.le_trans hs3 (by decide)
      walk_at "rd"
      have eb : ((pre.length : Nat) : Int) + ((s.length : Nat) : Int) = ((pre.length + s.length : Nat) : Int) := by omega
      rw [eb]
      by_cases hsw : s = w
      · subst hsw
        rw [cut_code e rfl rfl]
        refine ift (dT rfl) ?_
        walk_at "rd"
        refine rd_newT fun p H2 hp x2 e2 => ?_
        refine q p H2 x2 ?_
        rw [kind_sign s hsm]
        exact e2
      · have hne : cutS z (some ((pre.length : Nat) : Int)) (some ((pre.length + s.length : Nat) : Int)) ≠ s := fun hq => by
          obtain ⟨r', er⟩ := cut_head e0 rfl (b := ((pre.length + s.length : Nat) : Int)) (n := s.length - 1) (by rw [show s.length - 1 + 1 = s.length by omega])
          rw [hq] at er
          exact hsw (sign_heads s hsm w h1 (by rw [er, ec] <;> rfl))
        refine iff' (dF hne) ?_
        walk_at "rd"
        refine ⟨?_, rfl, _, rfl⟩
        rcases Nat.lt_or_ge i k with hik | hik
        · exact hik
        · have : i = k := by omega
          subst this
          rw [List.getElem?_eq_getElem hk, ek] at hs
          exact absurd (Option.some.inj hs).symm hsw
    · rintro σ H' ⟨hi, _⟩
      rw [List.length_map] at hi
      exact absurd hk (by omega)
end
end Ele
end
section
set_option Elab.async false
set_option linter.all false
set_option maxRecDepth 100000
set_option maxHeartbeats 2000000
local macro_rules | `(tactic| walk_at "rd") => `(tactic| repeat (first
  | with_reducible refine' Ele.rd_seq ?_
  | with_reducible refine' Ele.rd_asg ?_
  | with_reducible refine' Ele.rd_name ?_
  | with_reducible refine' Ele.rd_op ?_
  | ((with_reducible refine' Ele.rd_var ?hv ?_); (case hv => rfl))
  | with_reducible refine' Ele.rd_c ?_
  | with_reducible refine' Ele.rd_rI0 ?_
  | ((with_reducible refine' Ele.rd_eq ?hs ?_); (case hs => rfl))
  | ((with_reducible refine' Ele.rd_ne ?hs ?_); (case hs => rfl))
  | with_reducible refine' Ele.rd_test ?_
  | with_reducible refine' Ele.rd_k ?_
  | with_reducible refine' Ele.rd_if ?_
  | with_reducible refine' Ele.rd_drop ?_
  | with_reducible refine' Ele.rd_ret ?_
  | with_reducible refine' Ele.rd_retN ?_
  | with_reducible refine' Ele.rd_next ?_
  | with_reducible refine' Ele.rd_brk ?_
  | ((with_reducible refine' Ele.rd_aug ?hs ?_); (case hs => rfl))
  | with_reducible refine' Ele.rd_ipI ?_
  | with_reducible refine' Ele.rd_cons ?_
  | with_reducible refine' Ele.rd_nil ?_
  | with_reducible refine' Ele.rd_cl ?_
  | with_reducible refine' Ele.rd_cb ?_
  | with_reducible refine' Ele.rd_tup ?_
  | with_reducible refine' Ele.rd_lst ?_
  | with_reducible refine' Ele.rd_not ?_
  | with_reducible refine' Ele.rd_notV ?_
  | with_reducible refine' Ele.rd_and ?_
  | with_reducible refine' Ele.rd_or ?_
  | with_reducible refine' Ele.rd_andV ?_
  | with_reducible refine' Ele.rd_orV ?_
  | with_reducible refine' Ele.rd_add ?_
  | with_reducible refine' Ele.rd_max ?_
  | with_reducible refine' Ele.rd_int ?_
  | with_reducible refine' Ele.rd_tB ?_
  | with_reducible refine' Ele.rd_un ?_
  | ((with_reducible refine' Ele.rd_lenL ?h ?_); (case h => exact Ele.sl_of (by assumption)))
  | ((with_reducible refine' Ele.rd_lenT ?h ?_); (case h => exact Ele.st_of (by assumption)))
  | ((with_reducible refine' Ele.rd_lenS ?h ?_); (case h => assumption))
  | with_reducible refine' Ele.rd_sl ?_
  | with_reducible refine' Ele.rd_part ?_
  | with_reducible refine' Ele.rd_pi ?_
  | ((with_reducible refine' Ele.rd_slS ?h ?_); (case h => assumption))
  | with_reducible refine' Ele.rd_inC ?_
  | with_reducible refine' Ele.rd_fld ?_
  | with_reducible refine' Ele.rd_mt0 ?_
  | ((with_reducible refine' Ele.rd_row ?hT ?hR ?_); (case hT => assumption); (case hR => assumption))
  | ((with_reducible refine' Ele.rd_at ?hT ?hR ?_); (case hT => assumption); (case hR => assumption))
  | ((with_reducible refine' Ele.rd_opc ?hT ?hR ?_); (case hT => assumption); (case hR => assumption))
  | ((with_reducible refine' Ele.rd_scp ?hT ?hR ?_); (case hT => assumption); (case hR => assumption))
  | ((with_reducible refine' Ele.rd_mt ?hR ?hm ?_); (case hR => assumption); (case hm => decide +kernel))
  | ((with_reducible refine' Ele.rd_word ?hR ?_); (case hR => assumption))
  | ((with_reducible refine' Ele.rd_kind ?hR ?_); (case hR => assumption))
  | ((with_reducible refine' Ele.rd_gtup2 ?h ?hn ?_); (case h => assumption); (case hn => rfl))
  | with_reducible refine' Ele.rd_gcons ?_
  | with_reducible refine' Ele.rd_gnil ?_
  | with_reducible refine' Ele.rd_gsub ?_
  | with_reducible refine' Ele.rd_fldset ?_
  ))
namespace Ele
open PySem PySem.Spec PyProof.Rows L2
def spTokens : Sp := fun vs H Q _ => ∃ (z : Str) (ws : List Str), vs = [.str z] ∧ z.length ≤ 20000 ∧ Lx (tlw z) ws ∧ ∀ l H', Ex H H' → H l = none → RowAt H' l (ws ++ [("" : Str)]) → Q (.ref l) H'
def TkW (z : Str) (ws : List Str) (H0 : Hp) (l : Addr) (m : Nat) (σ : L2.St) (H : Hp) : Prop :=
  ∃ (pre cs : List Nat) (done rest : List Str) (a b : Int) (x y u : Option V), m = cs.length ∧ σ = [some (.str z), some (.ref l), some (.int (pre.length : Nat)), some (.int a), some (.int b), x, y, u] ∧ Ex H0 H ∧ tlw z = pre ++ cs ∧ Lx cs rest ∧ ws = done ++ rest ∧ RowAt H l done ∧ done.length ≤ pre.length
inductive LxV : List Nat → List Str → Prop
  | nil : LxV [] []
  | nl {c cs ws} : c = 10 → Lx cs ws → LxV (c :: cs) ws
  | bl {c cs ws} : c = 32 ∨ c = 9 → Lx cs ws → LxV (c :: cs) ws
  | rem {c r cs ws} : c = 35 → (∀ x ∈ r, x ≠ 10) → Lx (10 :: cs) ws → LxV (c :: (r ++ 10 :: cs)) ws
  | tok {w cs ws} : TokW w cs → w.length ≤ 20 → Lx cs ws → LxV (tlw w ++ cs) (w :: ws)
theorem Lx.view {cs : List Nat} {ws : List Str} (h : Lx cs ws) : LxV cs ws := by
  cases h with
  | nil => exact .nil
  | nl a b => exact .nl a b
  | bl a b => exact .bl a b
  | rem a b c => exact .rem a b c
  | word a b c d e => exact .tok (.inl ⟨a, c, d⟩) b e
  | sign a b => exact .tok (.inr a) (Nat.le_trans (sign_len _ a).2 (by decide)) b
theorem head_sign : ∀ s ∈ signs, ∀ c ∈ (tlw s).head?, c ≠ 10 ∧ c ≠ 32 ∧ c ≠ 9 ∧ c ≠ 35 := by decide +kernel
theorem head_tok {w : Str} {cs : List Nat} (h : TokW w cs) : ∃ c r, tlw w = c :: r ∧ c ≠ 10 ∧ c ≠ 32 ∧ c ≠ 9 ∧ c ≠ 35 := by
  rcases h with ⟨h, _⟩ | h
  · obtain ⟨c, r, e, hl, _⟩ := isW_head h
    refine ⟨c, r, e, ?_⟩
    simp only [small, capital, Bool.or_eq_true, Bool.and_eq_true, decide_eq_true_eq] at hl
    omega
  · obtain ⟨c, r, e, _, _⟩ := sign_head h
    exact ⟨c, r, e, head_sign w h c (by rw [e]; exact rfl)⟩
section
variable {P : Program} {w : World} {K : PySem.W.Frag} {mg : Str → Option Value} {base : Heap} {n : Nat}
abbrev N_tokens : List Str := ["text", "found", "at", "line", "line_start", "kind", "word", "column"]
theorem sc_tokens : FnScope N_tokens ["text"] (defScope s_tokens) := ⟨rfl, rfl, rfl, by decide +kernel, rfl, by decide +kernel, by decide +kernel⟩
theorem ok_tokens (T : Txt K mg) (F : Fd K d_tokens) (O_token_at : Ok P w K mg base 2 (He.ga K "_token_at") ["text", "at"] spTokenAt) (O_line_end : Ok P w K mg base 1 (He.ga K "_line_end") ["text", "at"] spLineEnd) : Ok P w K mg base 3 (He.ga K "tokens") ["text"] spTokens := by
  refine ok_mk F sc_tokens (fun _ _ _ _ _ _ us hl => match us, hl with | [_], _ => rfl) (fun vs H Q E h => ?_) (fun f cdv A outer s H vs Q E hr h => ?_)
  · obtain ⟨_, _, rfl, _⟩ := h
    rfl
  obtain ⟨z, ws, rfl, hz0, hL, q⟩ := h
  have hz : z.length ≤ sizeLine := Nat.le_trans hz0 (by decide)
  refine ⟨_, (pss_cons (ps_if (qtst op_gt (qcb qlenS T fm_len bl_len (pa_cons (pv 0) pa_nil)) (qgi T.mText)) pss_never pss_nil)
  (pss_cons (ps_set (i := 1) sc_tokens.nd rfl (Or.inl rfl) (pe_lst pa_nil))
  (pss_cons (ps_set (i := 2) sc_tokens.nd rfl (Or.inl rfl) pe_int)
  (pss_cons (ps_set (i := 3) sc_tokens.nd rfl (Or.inl rfl) pe_int)
  (pss_cons (ps_set (i := 4) sc_tokens.nd rfl (Or.inl rfl) pe_int)
  (pss_cons (ps_while PassesOwn.never (qtst op_lt (pv 2) (qcb qlenS T fm_len bl_len (pa_cons (pv 0) pa_nil))) (pss_one (ps_if (qtst op_eq (qis (pv 0) (pv 2)) pe_str) (pss_cons (ps_aug (i := 2) sc_tokens.nd rfl (Or.inl rfl) pe_int ip_add)
  (pss_cons (ps_aug (i := 3) sc_tokens.nd rfl (Or.inl rfl) pe_int ip_add)
  (pss_one (ps_set (i := 4) sc_tokens.nd rfl (Or.inl rfl) (pv 2))))) (pss_one (ps_if (PW.pt (pw_or (qtst op_eq (qis (pv 0) (pv 2)) pe_str) (pw_or1 (qtst op_eq (qis (pv 0) (pv 2)) pe_str)))) (pss_one (ps_aug (i := 2) sc_tokens.nd rfl (Or.inl rfl) pe_int ip_add)) (pss_one (ps_if (qtst op_eq (qis (pv 0) (pv 2)) pe_str) (pss_one (ps_set (i := 2) sc_tokens.nd rfl (Or.inl rfl) (qc T gm_line_end O_line_end (hr.mono (by omega)) (pa_cons (pv 0) (pa_cons (pv 2) pa_nil))))) (pss_cons (ps_asg (qc T gm_token_at O_token_at (hr.mono (by omega)) (pa_cons (pv 0) (pa_cons (pv 2) pa_nil))) (qgt K (pgs_cons (pg_name (i := 5) sc_tokens.nd rfl (Or.inl rfl)) (pgs_cons (pg_name (i := 6) sc_tokens.nd rfl (Or.inl rfl)) pgs_nil))))
  (pss_cons (ps_set (i := 7) sc_tokens.nd rfl (Or.inl rfl) (pe_op op_add (pe_op op_sub (pv 2) (pv 4)) pe_int))
  (pss_cons (ps_if (qtst op_eq (pv 6) pe_str) pss_never pss_nil)
  (pss_cons (ps_if (qtst op_gt (qcb qlenS T fm_len bl_len (pa_cons (pv 6) pa_nil)) (qgi T.mName)) pss_never pss_nil)
  (pss_cons (ps_expr (qbm K mt_append (pv 1) (pa_cons (pe_tup (pa_cons (pv 5) (pa_cons (pv 6) (pa_cons (pv 3) (pa_cons (pv 7) pa_nil))))) pa_nil)))
  (pss_one (ps_aug (i := 2) sc_tokens.nd rfl (Or.inl rfl) (qcb qlenS T fm_len bl_len (pa_cons (pv 6) pa_nil)) ip_add))))))))))))))
  (pss_cons (ps_expr (qbm K mt_append (pv 1) (pa_cons (pe_tup (pa_cons pe_str (pa_cons pe_str (pa_cons (pv 3) (pa_cons (pe_op op_add (pe_op op_sub (qcb qlenS T fm_len bl_len (pa_cons (pv 0) pa_nil)) (pv 4)) pe_int) pa_nil))))) pa_nil)))
  (pss_one (ps_ret (pv 1)))))))))), ?_⟩
  walk_at "rd"
  refine iff' (decide_eq_false (by omega)) ?_
  walk_at "rd"
  refine rd_newL fun l H1 hl x1 e1 => ?_
  walk_at "rd"
  refine ⟨TkW z ws H l, ⟨(tlw z).length, [], tlw z, [], ws, 1, 0, none, none, none, rfl, rfl, x1, rfl, hL, rfl, ⟨[], e1, rfl, fun i w h => by cases h⟩, Nat.zero_le _⟩, ?_⟩
  rintro m σ H2 ⟨pre, cs, done, rest, a, b, x, y, u, rfl, rfl, x2, ez, l2, ew, row2, hd⟩
  have hlen := zlen ez
  walk_at "rd"
  cases l2.view with
  | nil =>
    refine iff' (decide_eq_false (by rw [List.length_nil] at hlen; omega)) ?_
    obtain ⟨vs, h1, h2, h3⟩ := row2
    walk_at "rd"
    refine rd_bm rfl h1 ?_
    walk_at "rd"
    refine rd_newT fun t H3 ht x3 e3 => ?_
    walk_at "rd"
    have row3 := RowAt.exs ⟨vs, h1, h2, h3⟩ x3
    refine rd_app (x3 _ _ h1) (Nat.lt_of_le_of_lt (show _ ≤ 20000 by omega) (by decide)) ?_
    walk_at "rd"
    refine q l _ (Ex.mut (x2.trans x3) hl) hl ?_
    rw [ew, List.append_nil]
    exact row3.snoc (x3 _ _ h1) (by rw [kind_end]; exact e3)
  | @nl c cs' _ hc l3 =>
    subst hc
    have e1 := at_code ez
    refine ift (decide_eq_true (by rw [List.length_cons] at hlen; omega)) ?_
    refine ⟨fun σ2 H2 => ∃ m', m' < _ ∧ TkW z ws H l m' σ2 H2, fun _ _ h => h, ?_⟩
    walk_at "rd"
    refine rd_ixS hz e1 ?_
    walk_at "rd"
    refine ift (dT (one_eq (k := 10) (by decide +kernel) rfl)) ?_
    walk_at "rd"
    refine ⟨cs'.length, Nat.lt_succ_self _, pre ++ [10], cs', done, rest, a + 1, ((pre.length : Nat) : Int) + 1, x, y, u, rfl, ?_, x2, by rw [ez]; simp, l3, ew, row2, by rw [List.length_append]; omega⟩
    rw [List.length_append] <;> rfl
  | @bl c cs' _ hc l3 =>
    have e1 := at_code ez
    refine ift (decide_eq_true (by rw [List.length_cons] at hlen; omega)) ?_
    refine ⟨fun σ2 H2 => ∃ m', m' < _ ∧ TkW z ws H l m' σ2 H2, fun _ _ h => h, ?_⟩
    walk_at "rd"
    refine rd_ixS hz e1 ?_
    walk_at "rd"
    refine iff' (dF (one_ne (k := 10) (by decide +kernel) (by omega))) ?_
    walk_at "rd"
    refine rd_ixS hz e1 ?_
    walk_at "rd"
    have fin : TkW z ws H l cs'.length [some (V.str z), some (V.ref l), some (V.int (((pre.length : Nat) : Int) + 1)), some (V.int a), some (V.int b), x, y, u] H2 :=
      ⟨pre ++ [c], cs', done, rest, a, b, x, y, u, rfl, by rw [List.length_append] <;> rfl, x2, by rw [ez]; simp, l3, ew, row2, by rw [List.length_append]; omega⟩
    rcases hc with rfl | rfl
    · refine ift (dT (one_eq (k := 32) (by decide +kernel) rfl)) ?_
      refine ift rfl ?_
      walk_at "rd"
      exact ⟨_, Nat.lt_succ_self _, fin⟩
    · refine iff' (dF (one_ne (k := 32) (by decide +kernel) (by omega))) ?_
      walk_at "rd"
      refine rd_ixS hz e1 ?_
      walk_at "rd"
      refine ift (dT (one_eq (k := 9) (by decide +kernel) rfl)) ?_
      walk_at "rd"
      exact ⟨_, Nat.lt_succ_self _, fin⟩
  | @rem c r cs' _ hc hr2 l3 =>
    subst hc
    have e1 := at_code ez
    refine ift (decide_eq_true (by rw [List.length_cons] at hlen; omega)) ?_
    refine ⟨fun σ2 H2 => ∃ m', m' < _ ∧ TkW z ws H l m' σ2 H2, fun _ _ h => h, ?_⟩
    walk_at "rd"
    refine rd_ixS hz e1 ?_
    walk_at "rd"
    refine iff' (dF (one_ne (k := 10) (by decide +kernel) (by omega))) ?_
    walk_at "rd"
    refine rd_ixS hz e1 ?_
    walk_at "rd"
    refine iff' (dF (one_ne (k := 32) (by decide +kernel) (by omega))) ?_
    walk_at "rd"
    refine rd_ixS hz e1 ?_
    walk_at "rd"
    refine iff' (dF (one_ne (k := 9) (by decide +kernel) (by omega))) ?_
    walk_at "rd"
    refine rd_ixS hz e1 ?_
    walk_at "rd"
    refine ift (dT (one_eq (k := 35) (by decide +kernel) rfl)) ?_
    walk_at "rd"
    refine ⟨z, pre, 35 :: r, cs', rfl, hz, by rw [ez] <;> rfl, fun c hc => ?_, ?_⟩
    · rcases List.mem_cons.mp hc with rfl | hc
      · decide
      · exact hr2 c hc
    walk_at "rd"
    refine ⟨(10 :: cs').length, ?_, pre ++ 35 :: r, 10 :: cs', done, rest, a, b, x, y, u, rfl, ?_, x2, by rw [ez]; simp, l3, ew, row2, by rw [List.length_append]; omega⟩
    · simp only [List.length_cons, List.length_append]; omega
    · rw [List.length_append] <;> rfl
  | @tok w cs' ws' ht hw20 l3 =>
    obtain ⟨c, r, ec, c1, c2, c3, c4⟩ := head_tok ht
    have hcs : tlw w ++ cs' = c :: (r ++ cs') := by rw [ec] <;> rfl
    have ez2 : tlw z = pre ++ c :: (r ++ cs') := by rw [ez, hcs]
    have e1 := at_code ez2
    have hwz : w.length ≤ sizeLine := Nat.le_trans hw20 (by decide)
    have hw0 : w ≠ ("" : Str) := fun e => by
      rw [e] at ec
      cases ec
    have hwl : 0 < w.length := by
      rw [← tlw_len, ec]
      exact Nat.succ_pos _
    refine ift (decide_eq_true (by rw [List.length_append, tlw_len] at hlen; omega)) ?_
    refine ⟨fun σ2 H2 => ∃ m', m' < _ ∧ TkW z ws H l m' σ2 H2, fun _ _ h => h, ?_⟩
    walk_at "rd"
    refine rd_ixS hz e1 ?_
    walk_at "rd"
    refine iff' (dF (one_ne (k := 10) (by decide +kernel) c1)) ?_
    walk_at "rd"
    refine rd_ixS hz e1 ?_
    walk_at "rd"
    refine iff' (dF (one_ne (k := 32) (by decide +kernel) c2)) ?_
    walk_at "rd"
    refine rd_ixS hz e1 ?_
    walk_at "rd"
    refine iff' (dF (one_ne (k := 9) (by decide +kernel) c3)) ?_
    walk_at "rd"
    refine rd_ixS hz e1 ?_
    walk_at "rd"
    refine iff' (dF (one_ne (k := 35) (by decide +kernel) c4)) ?_
    walk_at "rd"
    refine ⟨z, w, pre, cs', rfl, hz, ez, ht, fun p H3 x3 e3 => ?_⟩
    walk_at "rd"
    refine iff' (dF hw0) ?_
    walk_at "rd"
    refine iff' (decide_eq_false (by omega)) ?_
    obtain ⟨vs, h1, h2, h3⟩ := row2
    walk_at "rd"
    refine rd_bm rfl (x3 _ _ h1) ?_
    walk_at "rd"
    refine rd_newT fun t H4 ht4 x4 e4 => ?_
    walk_at "rd"
    have row4 := RowAt.exs ⟨vs, h1, h2, h3⟩ (x3.trans x4)
    have l4 : H4 l = some (.lst vs) := x4 _ _ (x3 _ _ h1)
    refine rd_app l4 (Nat.lt_of_le_of_lt (show _ ≤ 20000 by omega) (by decide)) ?_
    walk_at "rd"
    refine ⟨cs'.length, ?_, pre ++ tlw w, cs', done ++ [w], ws', a, b, some (.str (kindOf w)), some (.str w), some (.int (((pre.length : Nat) : Int) - b + 1)), rfl, ?_, Ex.mut ((x2.trans x3).trans x4) hl, by rw [ez, List.append_assoc], l3, by rw [ew, List.append_assoc] <;> rfl, row4.snoc l4 e4, ?_⟩
    · rw [List.length_append, tlw_len]; omega
    · rw [List.length_append, tlw_len] <;> rfl
    · rw [List.length_append, List.length_append, List.length_singleton, tlw_len]; omega
end
end Ele
end
section
set_option Elab.async false
set_option linter.all false
set_option maxRecDepth 100000
set_option maxHeartbeats 2000000
local macro_rules | `(tactic| walk_at "rd") => `(tactic| repeat (first
  | with_reducible refine' Ele.rd_seq ?_
  | with_reducible refine' Ele.rd_asg ?_
  | with_reducible refine' Ele.rd_name ?_
  | with_reducible refine' Ele.rd_op ?_
  | ((with_reducible refine' Ele.rd_var ?hv ?_); (case hv => rfl))
  | with_reducible refine' Ele.rd_c ?_
  | with_reducible refine' Ele.rd_rI0 ?_
  | ((with_reducible refine' Ele.rd_eq ?hs ?_); (case hs => rfl))
  | ((with_reducible refine' Ele.rd_ne ?hs ?_); (case hs => rfl))
  | with_reducible refine' Ele.rd_test ?_
  | with_reducible refine' Ele.rd_k ?_
  | with_reducible refine' Ele.rd_if ?_
  | with_reducible refine' Ele.rd_drop ?_
  | with_reducible refine' Ele.rd_ret ?_
  | with_reducible refine' Ele.rd_retN ?_
  | with_reducible refine' Ele.rd_next ?_
  | with_reducible refine' Ele.rd_brk ?_
  | ((with_reducible refine' Ele.rd_aug ?hs ?_); (case hs => rfl))
  | with_reducible refine' Ele.rd_ipI ?_
  | with_reducible refine' Ele.rd_cons ?_
  | with_reducible refine' Ele.rd_nil ?_
  | with_reducible refine' Ele.rd_cl ?_
  | with_reducible refine' Ele.rd_mk ?_
  | with_reducible refine' Ele.rd_cb ?_
  | with_reducible refine' Ele.rd_tup ?_
  | with_reducible refine' Ele.rd_lst ?_
  | with_reducible refine' Ele.rd_not ?_
  | with_reducible refine' Ele.rd_notV ?_
  | with_reducible refine' Ele.rd_and ?_
  | with_reducible refine' Ele.rd_or ?_
  | with_reducible refine' Ele.rd_andV ?_
  | with_reducible refine' Ele.rd_orV ?_
  | with_reducible refine' Ele.rd_add ?_
  | with_reducible refine' Ele.rd_max ?_
  | with_reducible refine' Ele.rd_int ?_
  | with_reducible refine' Ele.rd_tB ?_
  | with_reducible refine' Ele.rd_un ?_
  | ((with_reducible refine' Ele.rd_lenL ?h ?_); (case h => exact Ele.sl_of (by assumption)))
  | ((with_reducible refine' Ele.rd_lenT ?h ?_); (case h => exact Ele.st_of (by assumption)))
  | ((with_reducible refine' Ele.rd_lenS ?h ?_); (case h => assumption))
  | with_reducible refine' Ele.rd_sl ?_
  | with_reducible refine' Ele.rd_part ?_
  | with_reducible refine' Ele.rd_pi ?_
  | ((with_reducible refine' Ele.rd_slS ?h ?_); (case h => assumption))
  | with_reducible refine' Ele.rd_inC ?_
  | with_reducible refine' Ele.rd_fld ?_
  | with_reducible refine' Ele.rd_mt0 ?_
  | ((with_reducible refine' Ele.rd_row ?hT ?hR ?_); (case hT => assumption); (case hR => assumption))
  | ((with_reducible refine' Ele.rd_at ?hT ?hR ?_); (case hT => assumption); (case hR => assumption))
  | ((with_reducible refine' Ele.rd_opc ?hT ?hR ?_); (case hT => assumption); (case hR => assumption))
  | ((with_reducible refine' Ele.rd_scp ?hT ?hR ?_); (case hT => assumption); (case hR => assumption))
  | ((with_reducible refine' Ele.rd_mt ?hR ?hm ?_); (case hR => assumption); (case hm => decide +kernel))
  | ((with_reducible refine' Ele.rd_word ?hR ?_); (case hR => assumption))
  | ((with_reducible refine' Ele.rd_kind ?hR ?_); (case hR => assumption))
  | ((with_reducible refine' Ele.rd_gtup2 ?h ?hn ?_); (case h => assumption); (case hn => rfl))
  | with_reducible refine' Ele.rd_gcons ?_
  | with_reducible refine' Ele.rd_gnil ?_
  | with_reducible refine' Ele.rd_gsub ?_
  | with_reducible refine' Ele.rd_fldset ?_
  ))
namespace Ele
open PySem PySem.Spec PyProof.Rows L2
theorem set_new {K : PySem.W.Frag} {f : Str} {nx : L2.St → Hp → Prop} {σ : L2.St} {y : V} {x dx : Addr} {H : Hp} {fs : List (Str × V)} {mg : Str → Option Value} (T : Txt K mg) (hf : f ∈ noatN) (e : H x = some (.ins (CF K) dx fs)) (hl : fs.length ≤ 10)
    (q : ∀ H', Fx x H H' → H' x = some (.ins (CF K) dx (putF f y fs)) → nx σ H') : setRest K f nx σ y (.ref x) H := ⟨x, _, dx, fs, rfl, e, T.cl, T.noat _ hf, by omega, q _ Fx.set upd_same⟩
theorem Ex.made {H H1 : Hp} {x dx C : Addr} (hx : H x = none) (hd : H dx = none) (f : Fx x (upd (upd H dx (.own x)) x (.ins C dx [])) H1) : Ex H H1 := fun b o e => f b o (ne_of_none e hx) (by rw [upd_ne (ne_of_none e hx), upd_ne (ne_of_none e hd)]; exact e)
def spInit (K : PySem.W.Frag) : Sp := fun vs H Q _ => ∃ (x dx : Addr) (z : Str) (ws : List Str), vs = [.ref x, .str z] ∧ H x = some (.ins (CF K) dx []) ∧ z.length ≤ 20000 ∧ Lx (tlw z) ws ∧
  ∀ (R : Rp) (sa : Addr) (H' : Hp), R.r = x → Fx x H H' → RSx K R H' sa (ws ++ [("" : Str)]) 0 [] → Q .non H'
def spReadF (K : PySem.W.Frag) (n : Nat) : Sp := fun vs H Q _ => ∃ (z : Str) (ws : List Str) (h : Nat) (f : PyData), vs = [.str z] ∧ z.length ≤ 20000 ∧ Lx (tlw z) ws ∧ PF n .form [] 0 (ws ++ [("" : Str)]) h f [("" : Str)] ∧ h ≤ 40 ∧ ∀ v H', Ex H H' → Dp K H' v f → Q v H'
abbrev Stm := Str × Str × PyData
def stD (s : Stm) : PyData := .tuple [.str s.1, .str s.2.1, s.2.2]
/-- the statements of the words, behind those of done -/
inductive SRd (n : Nat) : List Stm → List Str → List Stm → Prop
  | nil {done} : SRd n done [("" : Str)] []
  | cons {done role name c ts h f d ts' l} : role = ("axiom" : Str) ∨ role = ("goal" : Str) → (role = ("goal" : Str) → ("goal" : Str) ∉ done.map (·.1)) → isName name = true → name ∉ reserved → name ∉ done.map (·.2.1) → c = (":" : Str) →
      PF n .form [] 0 ts h f (d :: ts') → d = ("." : Str) → h ≤ 40 → SRd n (done ++ [(role, name, f)]) ts' l → SRd n done (role :: name :: c :: ts) ((role, name, f) :: l)
def spStatement (K : PySem.W.Frag) (n : Nat) : Sp := fun vs H Q _ => ∃ (R : Rp) (sa nl : Addr) (hg : Bool) (ns : List Str) (role name c : Str) (ts : List Str) (h : Nat) (f : PyData) (d : Str) (ts' : List Str),
  vs = [.ref R.r, .ref nl, .bl hg] ∧ RSx K R H sa (role :: name :: c :: ts) 0 [] ∧ H nl = some (.lst (ns.map V.str)) ∧ (role = ("axiom" : Str) ∨ role = ("goal" : Str)) ∧ (role = ("goal" : Str) → hg = false) ∧ isName name = true ∧ name ∉ reserved ∧ name ∉ ns ∧ c = (":" : Str) ∧
  PF n .form [] 0 ts h f (d :: ts') ∧ d = ("." : Str) ∧ h ≤ 40 ∧ ∀ p v H', Fx R.r H H' → RSx K R H' sa ts' 0 [] → H' p = some (.tup [.str role, .str name, v]) → Dp K H' v f → Q (.ref p) H'
def spReadS (K : PySem.W.Frag) (n : Nat) : Sp := fun vs H Q _ => ∃ (z : Str) (ws : List Str) (l : List Stm), vs = [.str z] ∧ z.length ≤ 20000 ∧ Lx (tlw z) ws ∧ SRd n [] (ws ++ [("" : Str)]) l ∧ l.length ≤ 900 ∧ ∀ p vs H', Ex H H' → H' p = some (.lst vs) → DpAll K H' vs (l.map stD) → Q (.ref p) H'
theorem use_ans {c : TT} {σ : L2.St} {H : Hp} {b : Bool} {Q : Bool → Hp → Prop} (h : ∀ Q : Bool → Hp → Prop, Q b H → c σ H Q) (q : Q b H) : c σ H Q := h Q q
/-- [x[k] for x in xs] -/
theorem rd_lcIx {K : PySem.W.Frag} {σ : L2.St} {H : Hp} {Q : VK} {i j k : Nat} {a : Addr} {xs : List V} {f : V → V} {vs : List Nat} (hv : vs = [j]) (hs : σ[i]? = some (some (.ref a))) (h : H a = some (.lst xs)) (hk : ∀ x ∈ xs, ∃ t ys, x = .ref t ∧ H t = some (.tup ys) ∧ ys[k]? = some (f x)) (hj : j < σ.length) (hz : xs.length < sizeLine)
    (q : ∀ D H', H D = none → Ex H H' → H' D = some (.lst (xs.map f)) → Q (.ref D) H') : tLc (iList K (tVar i)) (gName j) tYes (tOp (rIxT K) (tVar j) (tC (.int (k : Nat)))) vs σ H Q := by
  subst hv
  refine ⟨_, hs, a, rfl, ⟨xs, sl_of h⟩, fun D hD => lc_list (xs := xs) (fun i H' => Ex H H' ∧ H' D = some (.lst ((xs.take i).map f))) ⟨Ex.new hD, upd_same⟩ (fun i H' _ p => sl_of (p.1 _ _ h)) ?_ ?_⟩
  · rintro i x H' hx ⟨p1, p2⟩
    have hi : i < xs.length := (List.getElem?_eq_some_iff.mp hx).1
    obtain ⟨t, ys, rfl, ht, hy⟩ := hk x (List.mem_of_getElem? hx)
    refine ⟨?_, ?_⟩
    · show (((σ.set j none).set j _).set j none) = σ.set j none
      rw [List.set_set, List.set_set]
    · unfold tYes
      dsimp only
      rw [if_pos rfl]
      refine ⟨.ref t, ?_, ?_⟩
      · show ((σ.set j none).set j _)[j]? = _
        rw [List.set_set, List.getElem?_set_self hj]
      refine ⟨t, ys, _, _, rfl, rfl, st_of (p1 _ _ ht), atI_nat hy, _, p2, ?_, Ex.mut p1 hD, ?_⟩
      · rw [List.length_map, List.length_take]
        omega
      · rw [upd_same]
        have e : (xs.take (i + 1)).map f = (xs.take i).map f ++ [f (.ref t)] := by
          rw [List.take_succ, hx, List.map_append] <;> rfl
        rw [e]
  · rintro H' ⟨p1, p2⟩
    rw [List.take_length] at p2
    exact q D H' hD p1 p2
inductive StL (K : PySem.W.Frag) (H : Hp) : List V → List Stm → Prop
  | nil : StL K H [] []
  | cons {t v s vs l} : H t = some (.tup [.str s.1, .str s.2.1, v]) → Dp K H v s.2.2 → StL K H vs l → StL K H (.ref t :: vs) (s :: l)
def itemAt (H : Hp) (k : Nat) : V → V
  | .ref t => (match H t with
    | some (.tup ys) => ys.getD k .non
    | _ => .non)
  | _ => .non
def flatS (l : List Stm) : Prop := ∀ s ∈ l, flatT s.2.2 = true
theorem StL.ex {K : PySem.W.Frag} {H H' : Hp} {vs : List V} {l : List Stm} (h : StL K H vs l) (x : Ex H H') : StL K H' vs l := by
  induction h with
  | nil => exact .nil
  | cons a b _ ih => exact .cons (x _ _ a) (dp_ex x _ b) ih
theorem StL.fx {K : PySem.W.Frag} {H H' : Hp} {vs : List V} {l : List Stm} {r : Addr} (h : StL K H vs l) (f : Fx r H H') (h1 : ∀ xs, H r ≠ some (.tup xs)) (h2 : ∀ o u, H r ≠ some (.frz o u)) : flatS l → StL K H' vs l := by
  induction h with
  | nil => exact fun _ => .nil
  | cons a b _ ih => exact fun fl => .cons (f _ _ (fun e => h1 _ (e ▸ a)) a) (dp_fx h1 h2 f _ (fl _ List.mem_cons_self) b) (ih fun s hs => fl s (List.mem_cons_of_mem _ hs))
theorem StL.snoc {K : PySem.W.Frag} {H : Hp} {vs : List V} {l : List Stm} {t : Addr} {v : V} {s : Stm} (h : StL K H vs l) (a : H t = some (.tup [.str s.1, .str s.2.1, v])) (b : Dp K H v s.2.2) : StL K H (vs ++ [.ref t]) (l ++ [s]) := by
  induction h with
  | nil => exact .cons a b .nil
  | cons a' b' _ ih => exact .cons a' b' ih
theorem StL.len {K : PySem.W.Frag} {H : Hp} {vs : List V} {l : List Stm} (h : StL K H vs l) : vs.length = l.length := by
  induction h with
  | nil => rfl
  | cons _ _ _ ih => rw [List.length_cons, List.length_cons, ih]
theorem StL.dps {K : PySem.W.Frag} {H : Hp} {vs : List V} {l : List Stm} (h : StL K H vs l) : DpAll K H vs (l.map stD) := by
  induction h with
  | nil => exact .nil
  | cons a b _ ih => exact .cons (.tup (st_of a) (.cons (.str _) (.cons (.str _) (.cons b .nil)))) ih
theorem itemAt_eq {H : Hp} {t : Addr} {ys : List V} {k : Nat} (h : H t = some (.tup ys)) : itemAt H k (.ref t) = ys.getD k .non := by
  show (match H t with
    | some (.tup ys) => ys.getD k .non
    | _ => .non) = _
  rw [h]
theorem StL.names {K : PySem.W.Frag} {H : Hp} {vs : List V} {l : List Stm} (h : StL K H vs l) : vs.map (itemAt H 1) = (l.map (·.2.1)).map V.str := by
  induction h with
  | nil => rfl
  | cons a _ _ ih => rw [List.map_cons, List.map_cons, List.map_cons, ih, itemAt_eq a] <;> rfl
theorem StL.roles {K : PySem.W.Frag} {H : Hp} {vs : List V} {l : List Stm} (h : StL K H vs l) : vs.map (itemAt H 0) = (l.map (·.1)).map V.str := by
  induction h with
  | nil => rfl
  | cons a _ _ ih => rw [List.map_cons, List.map_cons, List.map_cons, ih, itemAt_eq a] <;> rfl
theorem StL.item {K : PySem.W.Frag} {H : Hp} {vs : List V} {l : List Stm} (h : StL K H vs l) {k : Nat} (hk : k < 3) : ∀ x ∈ vs, ∃ t ys, x = V.ref t ∧ H t = some (.tup ys) ∧ ys[k]? = some (itemAt H k x) := by
  induction h with
  | nil => exact fun x hx => by cases hx
  | cons a _ _ ih =>
    intro x hx
    rcases List.mem_cons.mp hx with rfl | hx
    · refine ⟨_, _, rfl, a, ?_⟩
      rw [itemAt_eq a]
      match k, hk with
      | 0, _ => rfl
      | 1, _ => rfl
      | 2, _ => rfl
    · exact ih x hx
theorem SRd.len {n : Nat} {done l : List Stm} {ts : List Str} (h : SRd n done ts l) : l.length < ts.length := by
  induction h with
  | nil => exact Nat.one_pos
  | cons _ _ _ _ _ _ p _ _ _ ih =>
    have := p.len
    simp only [isLoop, List.length_cons] at *
    omega
/-- among the statements -/
def StW (K : PySem.W.Frag) (R : Rp) (z : Str) (H0 : Hp) (sa sl : Addr) (n : Nat) (all : List Stm) (m : Nat) (σ : L2.St) (H : Hp) : Prop :=
  ∃ (vs : List V) (done rest : List Stm) (ts : List Str) (a b c : Option V), m = ts.length ∧ σ = [some (.str z), some (.ref R.r), some (.ref sl), a, b, c] ∧ Fx R.r H0 H ∧ H sl = some (.lst vs) ∧ StL K H vs done ∧ flatS done ∧ all = done ++ rest ∧ RSx K R H sa ts 0 [] ∧ SRd n done ts rest
section
variable {P : Program} {w : World} {K : PySem.W.Frag} {mg : Str → Option Value} {base : Heap} {n : Nat}
abbrev N_init : List Str := ["self", "text"]
theorem sc_init : FnScope N_init ["self", "text"] (defScope s_m_init) := ⟨rfl, rfl, rfl, by decide +kernel, rfl, by decide +kernel, by decide +kernel⟩
theorem ok_init (T : Txt K mg) (F : Fd K d_m_init) (O_tokens : Ok P w K mg base 3 (He.ga K "tokens") ["text"] spTokens) : Ok P w K mg base 4 (mth K "__init__") ["self", "text"] (spInit K) := by
  refine ok_mk F sc_init (fun _ _ _ _ _ _ us hl => match us, hl with | [_, _], _ => rfl) (fun vs H Q E h => ?_) (fun f cdv A outer s H vs Q E hr h => ?_)
  · obtain ⟨_, _, _, _, rfl, _⟩ := h
    rfl
  obtain ⟨x, dx, z, ws, rfl, hx, hz, hL, q⟩ := h
  refine ⟨_, (pss_cons (qsf K (pv 0) (qc T gm_tokens O_tokens (hr.mono (by omega)) (pa_cons (pv 1) pa_nil)))
  (pss_cons (qsf K (pv 0) pe_int)
  (pss_cons (qsf K (pv 0) pe_int)
  (pss_one (qsf K (pv 0) (pe_lst pa_nil)))))), ?_⟩
  walk_at "rd"
  refine ⟨z, ws, rfl, hz, hL, fun l H1 x1 hl row1 => ?_⟩
  walk_at "rd"
  refine set_new T nat_row (x1 _ _ hx) (by decide) fun H2 f2 e2 => ?_
  have e2' : H2 x = some (.ins (CF K) dx [("row", .ref l)]) := e2
  walk_at "rd"
  refine set_new T nat_at e2' (by show 1 ≤ 10; decide) fun H3 f3 e3 => ?_
  have p3 : putF "at" (.int 0) [(("row" : Str), V.ref l)] = [(("row" : Str), V.ref l), ("at", .int 0)] := by
    have h1 : ¬ (("row" : Str) = "at") := by decide +kernel
    simp only [putF, if_neg h1]
  rw [p3] at e3
  walk_at "rd"
  refine set_new T nat_op e3 (by show 2 ≤ 10; decide) fun H4 f4 e4 => ?_
  have p4 : putF "open_count" (.int 0) [(("row" : Str), V.ref l), ("at", .int 0)] = [(("row" : Str), V.ref l), ("at", .int 0), ("open_count", .int 0)] := by
    have h1 : ¬ (("row" : Str) = "open_count") := by decide +kernel
    have h2 : ¬ (("at" : Str) = "open_count") := by decide +kernel
    simp only [putF, if_neg h1, if_neg h2]
  rw [p4] at e4
  walk_at "rd"
  refine rd_newL fun sa H5 hsa x5 e5 => ?_
  walk_at "rd"
  refine set_new T nat_sc (x5 _ _ e4) (by show 3 ≤ 10; decide) fun H6 f6 e6 => ?_
  have p6 : putF "scope" (.ref sa) [(("row" : Str), V.ref l), ("at", .int 0), ("open_count", .int 0)] = rf l 0 0 sa := by
    have h1 : ¬ (("row" : Str) = "scope") := by decide +kernel
    have h2 : ¬ (("at" : Str) = "scope") := by decide +kernel
    have h3 : ¬ (("open_count" : Str) = "scope") := by decide +kernel
    simp only [putF, rf, if_neg h1, if_neg h2, if_neg h3] <;> rfl
  rw [p6] at e6
  have nt : ∀ {H' : Hp} {fs : List (Str × V)}, H' x = some (.ins (CF K) dx fs) → ∀ xs, H' x ≠ some (.tup xs) := fun e xs e' => by rw [e] at e'; cases e'
  obtain ⟨vs, hv, _⟩ := id row1
  have nlx : l ≠ x := ne_of hv (x1 _ _ hx) (fun e => nomatch e)
  have f16 : Fx x H1 H6 := ((f2.trans f3).trans f4).ex x5 |>.trans f6
  refine q ⟨x, dx, l, ws ++ [("" : Str)]⟩ sa H6 rfl (fun b o hb hq => f16 b o hb (x1 _ _ hq)) ⟨?_, row1.keep f16 nlx (nt (x1 _ _ hx)), ⟨[], rfl⟩, ?_⟩
  · show H6 x = _
    rw [e6, Nat.sub_self]
  · rw [f6 _ _ (ne_of e5 (x5 _ _ e4) (fun e => nomatch e)) e5] <;> rfl
abbrev N_read_formula : List Str := ["text", "reader", "height", "formula"]
theorem sc_read_formula : FnScope N_read_formula ["text"] (defScope s_read_formula) := ⟨rfl, rfl, rfl, by decide +kernel, rfl, by decide +kernel, by decide +kernel⟩
theorem ok_read_formula (T : Txt K mg) (L : Low P w K mg base) (A : At_ P w K mg base n) (F : Fd K d_read_formula) (O_init : Ok P w K mg base 4 (mth K "__init__") ["self", "text"] (spInit K)) : Ok P w K mg base (10 + n + 1) (He.ga K "read_formula") ["text"] (spReadF K n) := by
  have O_formula := A.form
  have O_end := L.end_
  refine ok_mk F sc_read_formula (fun _ _ _ _ _ _ us hl => match us, hl with | [_], _ => rfl) (fun vs H Q E h => ?_) (fun f cdv A outer s H vs Q E hr h => ?_)
  · obtain ⟨_, _, _, _, rfl, _⟩ := h
    rfl
  obtain ⟨z, ws, h, φ, rfl, hz, hL, hp, h40, q⟩ := h
  refine ⟨_, (pss_cons (ps_set (i := 1) sc_read_formula.nd rfl (Or.inl rfl) (qmk T O_init (hr.mono (by omega)) (pa_cons (pv 0) pa_nil)))
  (pss_cons (ps_asg (qm0 T mm_formula O_formula (hr.mono (by omega)) (pv 1)) (qgt K (pgs_cons (pg_name (i := 2) sc_read_formula.nd rfl (Or.inl rfl)) (pgs_cons (pg_name (i := 3) sc_read_formula.nd rfl (Or.inl rfl)) pgs_nil))))
  (pss_cons (ps_expr (qm0 T mm_end O_end (hr.mono (by omega)) (pv 1)))
  (pss_cons (ps_if (qtst op_gt (pv 2) (qgi T.mHeight)) pss_never pss_nil)
  (pss_one (ps_ret (pv 3))))))), ?_⟩
  walk_at "rd"
  intro x dx hx hdx hne
  refine ⟨x, dx, z, ws, rfl, upd_same, hz, hL, fun R sa H1 eR f1 r1 => ⟨rfl, ?_⟩⟩
  have x1 := Ex.made hx hdx f1
  subst eR
  walk_at "rd"
  refine ⟨R, sa, _, 0, [], h, φ, _, rfl, r1, hp, fun p v H2 f2 r2 e2 d2 => ?_⟩
  walk_at "rd"
  refine ⟨R, sa, [], 0, [], rfl, r2, ?_⟩
  walk_at "rd"
  refine iff' (decide_eq_false (by omega)) ?_
  walk_at "rd"
  refine q v H2 (fun b o e => f2 _ _ (ne_of_none e hx) (x1 _ _ e)) d2
abbrev N_statement : List Str := ["self", "names", "has_goal", "role", "name", "height", "formula"]
theorem sc_statement : FnScope N_statement ["self", "names", "has_goal"] (defScope s_m_statement) := ⟨rfl, rfl, rfl, by decide +kernel, rfl, by decide +kernel, by decide +kernel⟩
theorem ok_statement (T : Txt K mg) (L : Low P w K mg base) (A : At_ P w K mg base n) (F : Fd K d_m_statement) : Ok P w K mg base (10 + n + 1) (mth K "statement") ["self", "names", "has_goal"] (spStatement K n) := by
  have O_word := L.word
  have O_next_symbol := L.symbol
  have O_skip := L.skip
  have O_formula := A.form
  refine ok_mk F sc_statement (fun _ _ _ _ _ _ us hl => match us, hl with | [_, _, _], _ => rfl) (fun vs H Q E h => ?_) (fun f cdv A outer s H vs Q E hr h => ?_)
  · obtain ⟨_, _, _, _, _, _, _, _, _, _, _, _, _, rfl, _⟩ := h
    rfl
  obtain ⟨R, sa, nl, hg, ns, role, name, c, ts, h, φ, d, ts', rfl, hR, hn, hrole, hgo, h1, h2, h3, rfl, hp, rfl, h40, q⟩ := h
  refine ⟨_, (pss_cons (ps_set (i := 3) sc_statement.nd rfl (Or.inl rfl) (qm0 T mm_word O_word (hr.mono (by omega)) (pv 0)))
  (pss_cons (ps_if (PW.pt (pw_and (qtst op_ne (pv 3) pe_str) (pw_and1 (qtst op_ne (pv 3) pe_str)))) pss_never pss_nil)
  (pss_cons (ps_if (PW.pt (pw_and (qtst op_eq (pv 3) pe_str) (pw_and1 (pt_val (pv 2))))) pss_never pss_nil)
  (pss_cons (qaf K in_add (pv 0) pe_int)
  (pss_cons (ps_set (i := 4) sc_statement.nd rfl (Or.inl rfl) (qm0 T mm_next_symbol O_next_symbol (hr.mono (by omega)) (pv 0)))
  (pss_cons (ps_if (qtst (qin K) (pv 4) (pv 1)) pss_never pss_nil)
  (pss_cons (ps_expr (qm T mm_skip O_skip (hr.mono (by omega)) (pv 0) (pa_cons pe_str pa_nil)))
  (pss_cons (ps_asg (qm0 T mm_formula O_formula (hr.mono (by omega)) (pv 0)) (qgt K (pgs_cons (pg_name (i := 5) sc_statement.nd rfl (Or.inl rfl)) (pgs_cons (pg_name (i := 6) sc_statement.nd rfl (Or.inl rfl)) pgs_nil))))
  (pss_cons (ps_if (qtst op_ne (qm0 T mm_word O_word (hr.mono (by omega)) (pv 0)) pe_str) pss_never pss_nil)
  (pss_cons (ps_if (qtst op_gt (pv 5) (qgi T.mHeight)) pss_never pss_nil)
  (pss_cons (qaf K in_add (pv 0) pe_int)
  (pss_one (ps_ret (pe_tup (pa_cons (pv 3) (pa_cons (pv 4) (pa_cons (pv 6) pa_nil))))))))))))))))), ?_⟩
  have nnl : nl ≠ R.r := ne_of hn hR.obj (fun e => nomatch e)
  refine rd_seq (rd_asg (rd_mt0 (rd_var rfl (rd_mt hR (by decide +kernel) (rd_nil (rd_word hR (rd_name ?_)))))))
  dsimp only
  refine rd_seq (rd_if (use_ans (b := false) (fun Q2 q2 => ?_) (iff' rfl ?_)))
  · walk_at "rd"
    rcases hrole with rfl | rfl
    · exact iff' (nF rfl) q2
    · refine ift (nT (by decide +kernel)) ?_
      walk_at "rd"
      rw [nF rfl]
      exact q2
  refine rd_next ?_
  dsimp only
  refine rd_seq (rd_if (use_ans (b := false) (fun Q2 q2 => ?_) (iff' rfl ?_)))
  · walk_at "rd"
    rcases hrole with rfl | rfl
    · exact iff' (dF (by decide +kernel)) q2
    · refine ift (dT rfl) ?_
      walk_at "rd"
      rw [hgo rfl]
      exact q2
  refine rd_next ?_
  walk_at "rd"
  refine rd_augAt T hR rfl fun H1 f1 r1 => ?_
  walk_at "rd"
  refine ⟨R, sa, name, _, 0, [], rfl, r1, h1, h2, fun H2 f2 r2 => ?_⟩
  have n2 : H2 nl = some (.lst (ns.map V.str)) := f2 _ _ nnl (f1 _ _ nnl hn)
  walk_at "rd"
  refine rd_inL (sl_of n2) rfl (flat_strs _) ?_
  rw [if_neg Bool.false_ne_true, inV_strs, decide_eq_false h3]
  walk_at "rd"
  refine iff' rfl ?_
  walk_at "rd"
  refine ⟨R, sa, _, _, 0, [], rfl, r2, by decide +kernel, fun H3 f3 r3 => ?_⟩
  walk_at "rd"
  refine ⟨R, sa, _, 0, [], h, φ, _, rfl, r3, hp, fun p v H4 f4 r4 e4 d4 => ?_⟩
  walk_at "rd"
  refine iff' (nF rfl) ?_
  walk_at "rd"
  refine iff' (decide_eq_false (by omega)) ?_
  walk_at "rd"
  refine rd_augAt T r4 rfl fun H5 f5 r5 => ?_
  walk_at "rd"
  refine rd_newT fun b6 H6 hb6 x6 e6 => ?_
  exact q b6 v H6 ((((f1.trans f2).trans f3).trans f4).trans f5 |>.ex x6) (r5.ex x6) e6 (dp_ex x6 _ (r4.dp f5 (hp.flat trivial) d4))
abbrev N_read_statements : List Str := ["text", "reader", "statements", "names", "has_goal", "statement"]
theorem sc_read_statements : FnScope N_read_statements ["text"] (defScope s_read_statements) := ⟨rfl, rfl, rfl, by decide +kernel, rfl, by decide +kernel, by decide +kernel⟩
theorem ok_read_statements (T : Txt K mg) (L : Low P w K mg base) (F : Fd K d_read_statements) (O_init : Ok P w K mg base 4 (mth K "__init__") ["self", "text"] (spInit K)) (O_statement : Ok P w K mg base (10 + n + 1) (mth K "statement") ["self", "names", "has_goal"] (spStatement K n)) : Ok P w K mg base (10 + n + 2) (He.ga K "read_statements") ["text"] (spReadS K n) := by
  have O_kind := L.kind
  refine ok_mk F sc_read_statements (fun _ _ _ _ _ _ us hl => match us, hl with | [_], _ => rfl) (fun vs H Q E h => ?_) (fun f cdv A outer s H vs Q E hr h => ?_)
  · obtain ⟨_, _, _, rfl, _⟩ := h
    rfl
  obtain ⟨z, ws, l, rfl, hz, hL, hp, hll, q⟩ := h
  refine ⟨_, (pss_cons (ps_set (i := 1) sc_read_statements.nd rfl (Or.inl rfl) (qmk T O_init (hr.mono (by omega)) (pa_cons (pv 0) pa_nil)))
  (pss_cons (ps_set (i := 2) sc_read_statements.nd rfl (Or.inl rfl) (pe_lst pa_nil))
  (pss_cons (ps_while PassesOwn.never (qtst op_ne (qm0 T mm_kind O_kind (hr.mono (by omega)) (pv 1)) pe_str) (pss_cons (ps_setLc (i := 3) (own := [("statement", 5)]) (g := gName 5) (tt := tYes) rfl sc_read_statements.nd rfl rfl (sw_true rfl rfl rfl (by decide +kernel)) (qpl K (pv 2)) (blkOk_by (own := [("statement", 5)]) (N := N_read_statements) (sc := defScope s_read_statements) (by decide +kernel)) (fun _ _ _ _ _ => pg_name (i := 5) sc_read_statements.nd rfl (Or.inl rfl)) (fun _ _ _ _ _ => pts_nil) (fun _ _ _ _ _ => (qit K (pv 5) pe_int)))
  (pss_cons (ps_set (i := 4) sc_read_statements.nd rfl (Or.inl rfl) (qcmp (qin K) pe_str (pe_lc (own := [("statement", 5)]) (g := gName 5) (tt := tYes) rfl sc_read_statements.nd (qpl K (pv 2)) (blkOk_by (own := [("statement", 5)]) (N := N_read_statements) (sc := defScope s_read_statements) (by decide +kernel)) (fun _ _ _ _ _ => pg_name (i := 5) sc_read_statements.nd rfl (Or.inl rfl)) (fun _ _ _ _ _ => pts_nil) (fun _ _ _ _ _ => (qit K (pv 5) pe_int)))))
  (pss_one (ps_expr (qbm K mt_append (pv 2) (pa_cons (qm T mm_statement O_statement (hr.mono (by omega)) (pv 1) (pa_cons (pv 3) (pa_cons (pv 4) pa_nil))) pa_nil)))))))
  (pss_one (ps_ret (pv 2)))))), ?_⟩
  walk_at "rd"
  intro x dx hx hdx hne
  refine ⟨x, dx, z, ws, rfl, upd_same, hz, hL, fun R sa H1 eR f1 r1 => ⟨rfl, ?_⟩⟩
  have x1 := Ex.made hx hdx f1
  subst eR
  walk_at "rd"
  refine rd_newL fun sl H2 hsl x2 e2 => ?_
  obtain ⟨n1, n2, n3⟩ := r1.fresh hsl
  walk_at "rd"
  have hsl0 : H1 sl = none := hsl
  refine ⟨StW K R z H1 sa sl n l, ⟨(ws ++ [("" : Str)]).length, [], [], l, ws ++ [("" : Str)], none, none, none, rfl, rfl, x2.fx, e2, .nil, (fun y hy => by cases hy), rfl, r1.ex x2, hp⟩, ?_⟩
  rintro m σ H3 ⟨vs, done, rest, ts, a, b, c0, rfl, rfl, f3, e3, d3, fl3, el, r3, p3⟩
  cases p3 with
  | nil =>
    walk_at "rd"
    refine iff' (nF kind_end) ?_
    walk_at "rd"
    rw [List.append_nil] at el
    subst el
    exact q sl vs H3 (fun b o e => f3 _ _ (ne_of_none e hx) (x1 _ _ e)) e3 d3.dps
  | @cons _ role name c ts h φ d ts' l' hrole hgo h1 h2 h3 hc hp hd h40 hrest =>
    have hk : kindOf role ≠ ("end" : Str) := by rcases hrole with rfl | rfl <;> decide +kernel
    walk_at "rd"
    refine ift (nT hk) ?_
    refine ⟨fun σ2 H2 => ∃ m', m' < _ ∧ StW K R z H1 sa sl n l m' σ2 H2, fun _ _ h => h, ?_⟩
    have hsz : vs.length < sizeLine := by
      have e := congrArg List.length el
      rw [List.length_append, List.length_cons] at e
      rw [d3.len]
      exact small1000 (by omega)
    walk_at "rd"
    refine rd_lcIx (i := 2) (j := 5) (k := 1) rfl rfl e3 (d3.item (by decide)) (by show 5 < 6; decide) hsz fun nl H4 hnl x4 e4 => ?_
    have d4 := d3.ex x4
    rw [d3.names] at e4
    walk_at "rd"
    refine rd_lcIx (i := 2) (j := 5) (k := 0) rfl rfl (x4 _ _ e3) (d4.item (by decide)) (by show 5 < 6; decide) hsz fun gl H5 hgl x5 e5 => ?_
    have d5 := d4.ex x5
    rw [d4.roles] at e5
    have r5 := r3.ex (x4.trans x5)
    walk_at "rd"
    refine rd_inL (sl_of e5) rfl (flat_strs _) ?_
    rw [if_neg Bool.false_ne_true, inV_strs]
    walk_at "rd"
    refine rd_bm rfl (x5 _ _ (x4 _ _ e3)) ?_
    walk_at "rd"
    refine ⟨R, sa, nl, _, done.map (·.2.1), role, name, c, ts, h, φ, d, ts', rfl, r5, x5 _ _ e4, hrole, fun e => decide_eq_false (hgo e), h1, h2, h3, hc, hp, hd, h40, fun b6 v6 H6 f6 r6 e6 d6 => ?_⟩
    have e6s : H6 sl = some (.lst vs) := f6 _ _ n1 (x5 _ _ (x4 _ _ e3))
    have hz2 : vs.length < sizeLine := hsz
    walk_at "rd"
    refine rd_app e6s hz2 ?_
    have nt : ∀ xs, H6 sl ≠ some (.tup xs) := fun xs e => by rw [e6s] at e; cases e
    have nf : ∀ o u, H6 sl ≠ some (.frz o u) := fun xs u e => by rw [e6s] at e; cases e
    have fl6 : flatS (done ++ [(role, name, φ)]) := fun s hs => by
      rcases List.mem_append.mp hs with hs | hs
      · exact fl3 s hs
      · rw [List.mem_singleton.mp hs]
        exact hp.flat trivial
    have d7 := ((d5.fx f6 r5.noTup r5.noFrz fl3).snoc (s := (role, name, φ)) e6 d6).fx (r := sl) (H' := upd H6 sl (.lst (vs ++ [.ref b6]))) Fx.set nt nf fl6
    have hl := hp.len
    refine ⟨ts'.length, ?_, vs ++ [.ref b6], done ++ [(role, name, φ)], l', ts', _, _, c0, rfl, rfl, Fx.mut ((f3.ex (x4.trans x5)).trans f6) hsl0, upd_same, d7, fl6, ?_, r6.mut e6s n2 n3, hrest⟩
    · simp only [isLoop, List.length_cons] at hl ⊢
      omega
    · rw [el]; simp
end
end Ele
end
section
set_option Elab.async false
set_option linter.all false
set_option maxRecDepth 100000
set_option maxHeartbeats 2000000
local macro_rules | `(tactic| walk_at "rd") => `(tactic| repeat (first
  | with_reducible refine' Ele.rd_seq ?_
  | with_reducible refine' Ele.rd_asg ?_
  | with_reducible refine' Ele.rd_name ?_
  | with_reducible refine' Ele.rd_op ?_
  | ((with_reducible refine' Ele.rd_var ?hv ?_); (case hv => rfl))
  | with_reducible refine' Ele.rd_c ?_
  | with_reducible refine' Ele.rd_rI0 ?_
  | ((with_reducible refine' Ele.rd_eq ?hs ?_); (case hs => rfl))
  | ((with_reducible refine' Ele.rd_ne ?hs ?_); (case hs => rfl))
  | with_reducible refine' Ele.rd_test ?_
  | with_reducible refine' Ele.rd_k ?_
  | with_reducible refine' Ele.rd_if ?_
  | with_reducible refine' Ele.rd_drop ?_
  | with_reducible refine' Ele.rd_ret ?_
  | with_reducible refine' Ele.rd_retN ?_
  | with_reducible refine' Ele.rd_next ?_
  | with_reducible refine' Ele.rd_brk ?_
  | ((with_reducible refine' Ele.rd_aug ?hs ?_); (case hs => rfl))
  | with_reducible refine' Ele.rd_ipI ?_
  | with_reducible refine' Ele.rd_cons ?_
  | with_reducible refine' Ele.rd_nil ?_
  | with_reducible refine' Ele.rd_cl ?_
  | with_reducible refine' Ele.rd_mk ?_
  | with_reducible refine' Ele.rd_cb ?_
  | with_reducible refine' Ele.rd_tup ?_
  | with_reducible refine' Ele.rd_lst ?_
  | with_reducible refine' Ele.rd_not ?_
  | with_reducible refine' Ele.rd_notV ?_
  | with_reducible refine' Ele.rd_and ?_
  | with_reducible refine' Ele.rd_or ?_
  | with_reducible refine' Ele.rd_andV ?_
  | with_reducible refine' Ele.rd_orV ?_
  | with_reducible refine' Ele.rd_add ?_
  | with_reducible refine' Ele.rd_max ?_
  | with_reducible refine' Ele.rd_int ?_
  | with_reducible refine' Ele.rd_tB ?_
  | with_reducible refine' Ele.rd_un ?_
  | ((with_reducible refine' Ele.rd_lenL ?h ?_); (case h => exact Ele.sl_of (by assumption)))
  | ((with_reducible refine' Ele.rd_lenT ?h ?_); (case h => exact Ele.st_of (by assumption)))
  | ((with_reducible refine' Ele.rd_lenS ?h ?_); (case h => assumption))
  | with_reducible refine' Ele.rd_sl ?_
  | with_reducible refine' Ele.rd_part ?_
  | with_reducible refine' Ele.rd_pi ?_
  | ((with_reducible refine' Ele.rd_slS ?h ?_); (case h => assumption))
  | with_reducible refine' Ele.rd_inC ?_
  | ((with_reducible refine' Ele.rd_ixL ?h ?e ?_); (case h => exact Ele.sl_of (by assumption)); (case e => rfl))
  | with_reducible refine' Ele.rd_forL ?_
  | with_reducible refine' Ele.rd_forS ?_
  | with_reducible refine' Ele.rd_fld ?_
  | with_reducible refine' Ele.rd_mt0 ?_
  | ((with_reducible refine' Ele.rd_row ?hT ?hR ?_); (case hT => assumption); (case hR => assumption))
  | ((with_reducible refine' Ele.rd_at ?hT ?hR ?_); (case hT => assumption); (case hR => assumption))
  | ((with_reducible refine' Ele.rd_opc ?hT ?hR ?_); (case hT => assumption); (case hR => assumption))
  | ((with_reducible refine' Ele.rd_scp ?hT ?hR ?_); (case hT => assumption); (case hR => assumption))
  | ((with_reducible refine' Ele.rd_mt ?hR ?hm ?_); (case hR => assumption); (case hm => decide +kernel))
  | ((with_reducible refine' Ele.rd_word ?hR ?_); (case hR => assumption))
  | ((with_reducible refine' Ele.rd_kind ?hR ?_); (case hR => assumption))
  | ((with_reducible refine' Ele.rd_gtup2 ?h ?hn ?_); (case h => assumption); (case hn => rfl))
  | with_reducible refine' Ele.rd_gcons ?_
  | with_reducible refine' Ele.rd_gnil ?_
  | with_reducible refine' Ele.rd_gsub ?_
  | with_reducible refine' Ele.rd_fldset ?_
  ))
namespace Ele
open PySem PySem.Spec PyProof.Rows L2
theorem rd_cut {t u : TS} {D : Ends} {σ : L2.St} {H : Hp} (Mid : L2.St → Hp → Prop) (q : t { D with nx := Mid } σ H) (k : ∀ σ' H', Mid σ' H' → u D σ' H') : Evl.tCut t u D σ H := ⟨Mid, q, k⟩
theorem rd_setL {p : Addr} {xs : List V} {k : Int} {j : Nat} {v : V} {H : Hp} {Q : Hp → Prop} (h : H p = some (.lst xs)) (hj : ixN xs.length k = some j) (q : ∀ H', Fx p H H' → H' p = some (.lst (xs.set j v)) → Q H') : rSetL (.ref p) (.int k) v H Q := ⟨p, xs, k, j, rfl, rfl, h, hj, q _ Fx.set upd_same⟩
/-- the law's draws: the script's copy at sl, the state at st -/
def StX (st sl : Addr) (H : Hp) : Prop := ∃ (ns : List Int) (a b c d : Int), H st = some (.lst [.ref sl, .int a, .int b, .int c, .int d]) ∧ H sl = some (.lst (ns.map V.int)) ∧ 0 ≤ a
section
variable {st sl a l : Addr} {H H' : Hp} {K : PySem.W.Frag}
theorem StX.ne (h : StX st sl H) : sl ≠ st := by
  obtain ⟨ns, _, _, _, _, e, es, _⟩ := h
  refine ne_of es e fun z => ?_
  cases ns <;> cases z
theorem StX.ex (h : StX st sl H) (x : Ex H H') : StX st sl H' := by
  obtain ⟨ns, a, b, c, d, e, es, ha⟩ := h
  exact ⟨ns, a, b, c, d, x _ _ e, x _ _ es, ha⟩
theorem StX.mut (h : StX st sl H) {o : HO} (h1 : l ≠ st) (h2 : l ≠ sl) : StX st sl (upd H l o) := by
  obtain ⟨ns, a, b, c, d, e, es, ha⟩ := h
  exact ⟨ns, a, b, c, d, by rw [upd_ne h1.symm]; exact e, by rw [upd_ne h2.symm]; exact es, ha⟩
theorem StX.fresh (h : StX st sl H) (hl : H l = none) : l ≠ st ∧ l ≠ sl := by
  obtain ⟨ns, _, _, _, _, e, es, _⟩ := h
  exact ⟨(ne_of_none e hl).symm, (ne_of_none es hl).symm⟩
theorem StX.isS (h : StX st sl H) : H st = none → False := fun e => by
  obtain ⟨ns, _, _, _, _, e', _⟩ := h
  rw [e] at e'
  cases e'
theorem StX.noT (h : StX st sl H) : ∀ xs, H st ≠ some (.tup xs) := fun xs e => by
  obtain ⟨ns, _, _, _, _, e', _⟩ := h
  rw [e] at e'
  cases e'
theorem StX.noF (h : StX st sl H) : ∀ o u, H st ≠ some (.frz o u) := fun o u e => by
  obtain ⟨ns, _, _, _, _, e', _⟩ := h
  rw [e] at e'
  cases e'
/-- a list that begins with no object stands apart -/
theorem StX.apart (h : StX st sl H) {xs : List V} (e : H a = some (.lst xs)) (hx : ∀ b r, xs ≠ .ref b :: r) : a ≠ st := by
  obtain ⟨ns, _, _, _, _, e', _⟩ := h
  exact ne_of e e' fun z => hx _ _ (HO.lst.inj z)
theorem strs_no {l : List Str} {r : List V} : ∀ b r', l.map V.str ++ r = V.ref b :: r' → r = V.ref b :: r' := fun b r' e => by
  cases l with
  | nil => exact e
  | cons x l => cases e
theorem StX.strs (h : StX st sl H) (f : Fx st H H') {l : List Str} (e : H a = some (.lst (l.map V.str))) : H' a = some (.lst (l.map V.str)) := f _ _ (h.apart e fun b r z => by cases l <;> cases z) e
theorem StX.dp (h : StX st sl H) (f : Fx st H H') {d : PyData} {v : V} (hd : flatT d = true) (q : Dp K H v d) : Dp K H' v d := dp_fx h.noT h.noF f d hd q
theorem StX.dps (h : StX st sl H) (f : Fx st H H') {ds : List PyData} {vs : List V} (hd : flatTs ds = true) (q : DpAll K H vs ds) : DpAll K H' vs ds := dps_fx h.noT h.noF f ds hd q
end
def spState (K : PySem.W.Frag) : Sp := fun vs H Q _ => ∃ (a : Addr) (ns : List Int), vs = [.ref a] ∧ SqL K H a (ns.map V.int) ∧ ∀ st sl H', Ex H H' → H st = none → H sl = none → StX st sl H' → Q (.ref st) H'
def spDraw : Sp := fun vs H Q _ => ∃ (st sl : Addr) (m : Int), vs = [.ref st, .int m] ∧ 0 < m ∧ m < 1073741824 ∧ StX st sl H ∧ ∀ j H', 0 ≤ j → j < m → Fx st H H' → StX st sl H' → Q (.int j) H'
/-- no n, no r ahead -/
def goodH (w : Str) : Bool := match tlw w with
  | c :: _ => decide (c ≠ 110) && decide (c ≠ 114)
  | [] => false
/-- what the law's words are -/
def WordOk (w : Str) : Prop := isName w = true ∧ w.length ≤ 20 ∧ (∀ c ∈ tlw w, wordc c = true) ∧ goodH w = true
def spWordL : Sp := fun vs H Q _ => ∃ (st sl : Addr), vs = [.ref st, .str "abcpqfxs"] ∧ StX st sl H ∧ ∀ w H', WordOk w → Fx st H H' → StX st sl H' → Q (.str w) H'
def spIsWord : Sp := fun vs H Q _ => ∃ w : Str, vs = [.str w] ∧ w.length ≤ sizeLine ∧ Q (.bl (isW w)) H
def spGap : Sp := fun vs H Q _ => ∃ (st sl : Addr) (a b : Str), vs = [.ref st, .str a, .str b] ∧ a.length ≤ sizeLine ∧ b.length ≤ sizeLine ∧ StX st sl H ∧ ∀ g H', gapOk a b g → Fx st H H' → StX st sl H' → Q (.str g) H'
section
variable {P : Program} {w : World} {K : PySem.W.Frag} {mg : Str → Option Value} {base : Heap} {n : Nat}
abbrev N_L_state : List Str := ["_law_script"]
theorem sc_L_state : FnScope N_L_state ["_law_script"] (defScope s_L_state) := ⟨rfl, rfl, rfl, by decide +kernel, rfl, by decide +kernel, by decide +kernel⟩
theorem ok_L_state (T : Txt K mg) (F : Fd K d_L_state) : Ok P w K mg base 1 (He.ga K "_law_state") ["_law_script"] (spState K) := by
  refine ok_mk F sc_L_state (fun _ _ _ _ _ _ us hl => match us, hl with | [_], _ => rfl) (fun vs H Q E h => ?_) (fun f cdv A outer s H vs Q E hr h => ?_)
  · obtain ⟨_, _, rfl, _⟩ := h
    rfl
  obtain ⟨a, ns, rfl, hS, q⟩ := h
  refine ⟨_, (pss_one (ps_ret (pe_lst (pa_cons (qct (qlstOf K) T fm_list bt_list (pa_cons (pv 0) pa_nil)) (pa_cons pe_int (pa_cons pe_int (pa_cons pe_int (pa_cons pe_int pa_nil)))))))), ?_⟩
  walk_at "rd"
  refine rd_lstOf hS fun sl H1 hsl x1 e1 => ?_
  walk_at "rd"
  refine rd_newL fun st H2 hst x2 e2 => ?_
  exact q st sl H2 (x1.trans x2) (x1.free hst) hsl ⟨ns, 0, 0, 1, 0, e2, x2 _ _ e1, Int.le_refl 0⟩
abbrev N_L_draw : List Str := ["_law_state_here", "_law_many", "_law_value", "_law_cell", "_law_first"]
theorem sc_L_draw : FnScope N_L_draw ["_law_state_here", "_law_many"] (defScope s_L_draw) := ⟨rfl, rfl, rfl, by decide +kernel, rfl, by decide +kernel, by decide +kernel⟩
theorem ok_L_draw (T : Txt K mg) (F : Fd K d_L_draw) : Ok P w K mg base 1 (He.ga K "_law_draw") ["_law_state_here", "_law_many"] spDraw := by
  refine ok_mk F sc_L_draw (fun _ _ _ _ _ _ us hl => match us, hl with | [_, _], _ => rfl) (fun vs H Q E h => ?_) (fun f cdv A outer s H vs Q E hr h => ?_)
  · obtain ⟨_, _, _, rfl, _⟩ := h
    rfl
  obtain ⟨st, sl, m, rfl, m0, m1, hS, q⟩ := h
  have hne := hS.ne
  obtain ⟨ns, a, b, c, d, e, es, ha⟩ := hS
  have fm : ∀ i : Int, 0 ≤ i.fmod m ∧ i.fmod m < m := fun i => ⟨Int.fmod_nonneg_of_pos i m0, Int.fmod_lt_of_pos i m0⟩
  refine ⟨_, (Evl.pss_cut (ps_if (PW.pt (pw_and (qtst op_gt (qil K (pv 0) pe_int) pe_int) (pw_and1 (qtst op_gt (qil K (pv 0) pe_int) pe_int)))) (pss_cons (ps_set (i := 2) sc_L_draw.nd rfl (Or.inl rfl) (pe_op op_modN (qct qintI T fm_int bt_int (pa_cons (qil K (pv 0) pe_int) pa_nil)) (pv 1)))
  (pss_cons (ps_asg (pe_op op_fdivN (qil K (pv 0) pe_int) (pv 1)) (pg_sub (pv 0) pe_int set_list))
  (pss_cons (ps_asg (pe_op op_sub (qil K (pv 0) pe_int) pe_int) (pg_sub (pv 0) pe_int set_list))
  (pss_one (ps_ret (pv 2)))))) pss_nil)
  (pss_cons (ps_set (i := 3) sc_L_draw.nd rfl (Or.inl rfl) (pe_op op_add (qil K (pv 0) pe_int) (pe_op op_mul pe_int (qil K (pv 0) pe_int))))
  (Evl.pss_cut (ps_if (qtst op_lt (qil K (pv 0) pe_int) (qcb (qlenQ K) T fm_len bl_len (pa_cons (qil K (pv 0) pe_int) pa_nil))) (pss_one (ps_set (i := 3) sc_L_draw.nd rfl (Or.inl rfl) (qil K (qil K (pv 0) pe_int) (qil K (pv 0) pe_int)))) pss_nil)
  (pss_cons (ps_asg (pe_op op_add (qil K (pv 0) pe_int) pe_int) (pg_sub (pv 0) pe_int set_list))
  (pss_cons (ps_if (qtst op_ge (pv 3) (pe_op op_pow pe_int pe_int)) (pss_cons (ps_asg (pe_op op_fdivN (pv 3) (pv 1)) (pg_sub (pv 0) pe_int set_list))
  (pss_cons (ps_asg pe_int (pg_sub (pv 0) pe_int set_list))
  (pss_one (ps_ret (pe_op op_modN (qct qintI T fm_int bt_int (pa_cons (pv 3) pa_nil)) (pv 1)))))) pss_nil)
  (pss_cons (ps_set (i := 4) sc_L_draw.nd rfl (Or.inl rfl) (pe_op op_mod (qct qintI T fm_int bt_int (pa_cons (pe_op op_add (pe_op op_add (pe_op op_mul (pv 3) pe_int) (pe_op op_mul (qil K (pv 0) pe_int) pe_int)) (qil K (pv 0) pe_int)) pa_nil)) pe_int))
  (pss_cons (ps_asg (pe_op op_mod (qct qintI T fm_int bt_int (pa_cons (pe_op op_add (pe_op op_add (pe_op op_mul (pv 4) pe_int) (pe_op op_mul (pv 4) (pv 4))) pe_int) pa_nil)) pe_int) (pg_sub (pv 0) pe_int set_list))
  (pss_one (ps_ret (pe_op op_modN (qct qintI T fm_int bt_int (pa_cons (pe_op op_fdivN (qil K (pv 0) pe_int) pe_int) pa_nil)) (pv 1))))))))))), ?_⟩
  refine rd_cut (fun σ' H' => H' = H ∧ σ' = [some (.ref st), some (.int m), none, none, none]) ?_ ?_
  · walk_at "rd"
    by_cases h4 : 0 < d
    · refine ift (decide_eq_true h4) ?_
      walk_at "rd"
      by_cases h2 : 0 < b
      · refine ift (decide_eq_true h2) ?_
        walk_at "rd"
        refine rd_rI (by omega) ?_
        walk_at "rd"
        refine rd_rI ⟨by omega, by omega⟩ ?_
        walk_at "rd"
        refine rd_setL e rfl fun H1 f1 e1 => ?_
        have e1' : H1 st = some (.lst [.ref sl, .int a, .int (b.fdiv m), .int c, .int d]) := e1
        walk_at "rd"
        refine rd_setL e1' rfl fun H2 f2 e2 => ?_
        walk_at "rd"
        exact q _ H2 (fm b).1 (fm b).2 (f1.trans f2) ⟨ns, a, _, c, _, e2, f2 _ _ hne (f1 _ _ hne es), ha⟩
      · refine iff' (decide_eq_false h2) ?_
        exact rd_next ⟨rfl, rfl⟩
    · refine iff' (decide_eq_false h4) ?_
      refine iff' rfl ?_
      exact rd_next ⟨rfl, rfl⟩
  rintro σ' H' ⟨rfl, rfl⟩
  walk_at "rd"
  refine rd_rI (.inl (by omega)) ?_
  walk_at "rd"
  refine rd_cut (fun σ' H2 => H2 = H' ∧ ∃ z, σ' = [some (.ref st), some (.int m), none, some (.int z), none]) ?_ ?_
  · walk_at "rd"
    by_cases h1 : a < ((ns.map V.int).length : Nat)
    · refine ift (decide_eq_true h1) ?_
      have hk : a.toNat < ns.length := by
        rw [List.length_map] at h1
        omega
      walk_at "rd"
      refine rd_ixL (sl_of es) (at_of (j := a.toNat) (by omega) (show _ = some (V.int ns[a.toNat]) by rw [List.getElem?_map, List.getElem?_eq_getElem hk] <;> rfl)) ?_
      walk_at "rd"
      exact ⟨rfl, _, rfl⟩
    · refine iff' (decide_eq_false h1) ?_
      exact rd_next ⟨rfl, _, rfl⟩
  rintro σ' H2 ⟨rfl, z, rfl⟩
  walk_at "rd"
  refine rd_setL e rfl fun H3 f3 e3 => ?_
  have e3' : H3 st = some (.lst [.ref sl, .int (a + 1), .int b, .int c, .int d]) := e3
  have s3 := f3 _ _ hne es
  walk_at "rd"
  refine rd_rI ⟨by omega, by omega, by omega⟩ ?_
  walk_at "rd"
  by_cases hz : (10 : Int) ^ (18 : Int).toNat ≤ z
  · refine ift (decide_eq_true hz) ?_
    walk_at "rd"
    refine rd_rI ⟨by omega, by omega⟩ ?_
    walk_at "rd"
    refine rd_setL e3' rfl fun H4 f4 e4 => ?_
    have e4' : H4 st = some (.lst [.ref sl, .int (a + 1), .int (z.fdiv m), .int c, .int d]) := e4
    walk_at "rd"
    refine rd_setL e4' rfl fun H5 f5 e5 => ?_
    walk_at "rd"
    refine rd_rI (by omega) ?_
    exact q _ H5 (fm z).1 (fm z).2 ((f3.trans f4).trans f5) ⟨ns, _, _, _, _, e5, f5 _ _ hne (f4 _ _ hne s3), by omega⟩
  · refine iff' (decide_eq_false hz) ?_
    walk_at "rd"
    refine rd_rI (.inr (by omega)) ?_
    walk_at "rd"
    refine rd_rI (.inr (by omega)) ?_
    walk_at "rd"
    refine rd_rI (by omega) ?_
    walk_at "rd"
    generalize hu : (z * 48271 + (a + 1) * 69621 + c) % 2147483647 = u
    have hu1 : 0 ≤ u ∧ u < 2147483647 := by omega
    refine rd_rI (.inr (by omega)) ?_
    walk_at "rd"
    refine rd_rI (.inl (by omega)) ?_
    walk_at "rd"
    refine rd_rI (by omega) ?_
    walk_at "rd"
    refine rd_setL e3' rfl fun H4 f4 e4 => ?_
    have e4' : H4 st = some (.lst [.ref sl, .int (a + 1), .int b, .int ((u * 16807 + u * u + 11) % 2147483629), .int d]) := e4
    walk_at "rd"
    refine rd_rI ⟨by omega, by omega⟩ ?_
    walk_at "rd"
    refine rd_rI (by omega) ?_
    exact q _ H4 (fm _).1 (fm _).2 (f3.trans f4) ⟨ns, _, _, _, _, e4', f4 _ _ hne s3, by omega⟩
end
end Ele
end
section
set_option Elab.async false
set_option linter.all false
set_option maxRecDepth 100000
set_option maxHeartbeats 2000000
local macro_rules | `(tactic| walk_at "rd") => `(tactic| repeat (first
  | with_reducible refine' Ele.rd_seq ?_
  | with_reducible refine' Ele.rd_asg ?_
  | with_reducible refine' Ele.rd_name ?_
  | with_reducible refine' Ele.rd_op ?_
  | ((with_reducible refine' Ele.rd_var ?hv ?_); (case hv => rfl))
  | with_reducible refine' Ele.rd_c ?_
  | with_reducible refine' Ele.rd_rI0 ?_
  | ((with_reducible refine' Ele.rd_eq ?hs ?_); (case hs => rfl))
  | ((with_reducible refine' Ele.rd_ne ?hs ?_); (case hs => rfl))
  | with_reducible refine' Ele.rd_test ?_
  | with_reducible refine' Ele.rd_k ?_
  | with_reducible refine' Ele.rd_if ?_
  | with_reducible refine' Ele.rd_drop ?_
  | with_reducible refine' Ele.rd_ret ?_
  | with_reducible refine' Ele.rd_retN ?_
  | with_reducible refine' Ele.rd_next ?_
  | with_reducible refine' Ele.rd_brk ?_
  | ((with_reducible refine' Ele.rd_aug ?hs ?_); (case hs => rfl))
  | with_reducible refine' Ele.rd_ipI ?_
  | with_reducible refine' Ele.rd_cons ?_
  | with_reducible refine' Ele.rd_nil ?_
  | with_reducible refine' Ele.rd_cl ?_
  | with_reducible refine' Ele.rd_mk ?_
  | with_reducible refine' Ele.rd_cb ?_
  | with_reducible refine' Ele.rd_tup ?_
  | with_reducible refine' Ele.rd_lst ?_
  | with_reducible refine' Ele.rd_not ?_
  | with_reducible refine' Ele.rd_notV ?_
  | with_reducible refine' Ele.rd_and ?_
  | with_reducible refine' Ele.rd_or ?_
  | with_reducible refine' Ele.rd_andV ?_
  | with_reducible refine' Ele.rd_orV ?_
  | with_reducible refine' Ele.rd_add ?_
  | with_reducible refine' Ele.rd_max ?_
  | with_reducible refine' Ele.rd_int ?_
  | with_reducible refine' Ele.rd_tB ?_
  | with_reducible refine' Ele.rd_un ?_
  | ((with_reducible refine' Ele.rd_lenL ?h ?_); (case h => exact Ele.sl_of (by assumption)))
  | ((with_reducible refine' Ele.rd_lenT ?h ?_); (case h => exact Ele.st_of (by assumption)))
  | ((with_reducible refine' Ele.rd_lenS ?h ?_); (case h => assumption))
  | with_reducible refine' Ele.rd_sl ?_
  | with_reducible refine' Ele.rd_part ?_
  | with_reducible refine' Ele.rd_pi ?_
  | ((with_reducible refine' Ele.rd_slS ?h ?_); (case h => assumption))
  | with_reducible refine' Ele.rd_inC ?_
  | ((with_reducible refine' Ele.rd_ixL ?h ?e ?_); (case h => exact Ele.sl_of (by assumption)); (case e => rfl))
  | with_reducible refine' Ele.rd_forL ?_
  | with_reducible refine' Ele.rd_forS ?_
  | with_reducible refine' Ele.rd_fld ?_
  | with_reducible refine' Ele.rd_mt0 ?_
  | ((with_reducible refine' Ele.rd_row ?hT ?hR ?_); (case hT => assumption); (case hR => assumption))
  | ((with_reducible refine' Ele.rd_at ?hT ?hR ?_); (case hT => assumption); (case hR => assumption))
  | ((with_reducible refine' Ele.rd_opc ?hT ?hR ?_); (case hT => assumption); (case hR => assumption))
  | ((with_reducible refine' Ele.rd_scp ?hT ?hR ?_); (case hT => assumption); (case hR => assumption))
  | ((with_reducible refine' Ele.rd_mt ?hR ?hm ?_); (case hR => assumption); (case hm => decide +kernel))
  | ((with_reducible refine' Ele.rd_word ?hR ?_); (case hR => assumption))
  | ((with_reducible refine' Ele.rd_kind ?hR ?_); (case hR => assumption))
  | ((with_reducible refine' Ele.rd_gtup2 ?h ?hn ?_); (case h => assumption); (case hn => rfl))
  | with_reducible refine' Ele.rd_gcons ?_
  | with_reducible refine' Ele.rd_gnil ?_
  | with_reducible refine' Ele.rd_gsub ?_
  | with_reducible refine' Ele.rd_fldset ?_
  ))
namespace Ele
open PySem PySem.Spec PyProof.Rows L2
theorem str_at {z : Str} {j : Int} (h0 : 0 ≤ j) (h1 : j < z.length) : ∃ c, atI z.cps.toList j = some c ∧ c ∈ tlw z := by
  have hk : j.toNat < (tlw z).length := by rw [tlw_len]; omega
  refine ⟨(tlw z)[j.toNat], ?_, List.getElem_mem hk⟩
  have e : j = ((j.toNat : Nat) : Int) := by omega
  have h := atI_nat (xs := tlw z) (List.getElem?_eq_getElem hk)
  rw [← e] at h
  exact h
theorem isName_add {w x : Str} (h : isName w = true) : isName (w ++ x) = true := by
  unfold isName at h ⊢
  rw [tlw_add]
  cases e : tlw w with
  | nil => rw [e] at h; cases h
  | cons c r => rw [e] at h; exact h
theorem goodH_add {w x : Str} (h : goodH w = true) : goodH (w ++ x) = true := by
  unfold goodH at h ⊢
  rw [tlw_add]
  cases e : tlw w with
  | nil => rw [e] at h; cases h
  | cons c r => rw [e] at h; exact h
theorem chars_ok : ∀ c ∈ tlw "abcxyzABCXYZ0189_mMnpqrstuvw", wordc c = true := by decide +kernel
theorem first_ok : ∀ c ∈ tlw "abcpqfxs", small c = true := by decide +kernel
theorem first_good : ∀ c ∈ tlw "abcpqfxs", (decide (c ≠ 110) && decide (c ≠ 114)) = true := by decide +kernel
/-- a word grows -/
def WoW (st sl : Addr) (n : Nat) (H0 : Hp) (i : Nat) (σ : L2.St) (H : Hp) : Prop := ∃ (w : Str) (x : Option V), σ = [some (.ref st), some (.str "abcpqfxs"), some (.str "abcxyzABCXYZ0189_mMnpqrstuvw"), some (.str w), some (.int (n : Nat)), x] ∧ Fx st H0 H ∧ StX st sl H ∧ isName w = true ∧ w.length = i + 1 ∧ (∀ c ∈ tlw w, wordc c = true) ∧ goodH w = true
theorem one_len (c : Nat) : (⟨#[c]⟩ : Str).length = 1 := rfl
theorem tlw_one (c : Nat) : tlw (⟨#[c]⟩ : Str) = [c] := rfl
section
variable {P : Program} {w : World} {K : PySem.W.Frag} {mg : Str → Option Value} {base : Heap} {n : Nat}
abbrev N_L_word : List Str := ["_law_state_here", "_law_letters", "_law_chars", "_law_word_here", "_law_size", "_law_turn"]
theorem sc_L_word : FnScope N_L_word ["_law_state_here", "_law_letters"] (defScope s_L_word) := ⟨rfl, rfl, rfl, by decide +kernel, rfl, by decide +kernel, by decide +kernel⟩
theorem ok_L_word (T : Txt K mg) (F : Fd K d_L_word) (O_L_draw : Ok P w K mg base 1 (He.ga K "_law_draw") ["_law_state_here", "_law_many"] spDraw) : Ok P w K mg base 2 (He.ga K "_law_word") ["_law_state_here", "_law_letters"] spWordL := by
  refine ok_mk F sc_L_word (fun _ _ _ _ _ _ us hl => match us, hl with | [_, _], _ => rfl) (fun vs H Q E h => ?_) (fun f cdv A outer s H vs Q E hr h => ?_)
  · obtain ⟨_, _, rfl, _⟩ := h
    rfl
  obtain ⟨st, sl, rfl, hS, q⟩ := h
  have hls : (Str.ofString "abcpqfxs").length ≤ sizeLine := by decide +kernel
  have hch : (Str.ofString "abcxyzABCXYZ0189_mMnpqrstuvw").length ≤ sizeLine := by decide +kernel
  refine ⟨_, (pss_cons (ps_set (i := 2) sc_L_word.nd rfl (Or.inl rfl) pe_str)
  (pss_cons (ps_set (i := 3) sc_L_word.nd rfl (Or.inl rfl) (qis (pv 1) (qc T gm_L_draw O_L_draw (hr.mono (by omega)) (pa_cons (pv 0) (pa_cons (qcb qlenS T fm_len bl_len (pa_cons (pv 1) pa_nil)) pa_nil)))))
  (pss_cons (ps_set (i := 4) sc_L_word.nd rfl (Or.inl rfl) (qc T gm_L_draw O_L_draw (hr.mono (by omega)) (pa_cons (pv 0) (pa_cons pe_int pa_nil))))
  (Evl.pss_cut (ps_if (qtst op_eq (qc T gm_L_draw O_L_draw (hr.mono (by omega)) (pa_cons (pv 0) (pa_cons pe_int pa_nil))) pe_int) (pss_one (ps_set (i := 4) sc_L_word.nd rfl (Or.inl rfl) (pe_op op_add pe_int (qc T gm_L_draw O_L_draw (hr.mono (by omega)) (pa_cons (pv 0) (pa_cons pe_int pa_nil)))))) pss_nil)
  (pss_cons (ps_for PassesOwn.never rfl (pi_range1 rfl (T.free _ fm_range) (pa_cons (pv 4) pa_nil)) (pg_name (i := 5) sc_L_word.nd rfl (Or.inl rfl)) (pss_one (ps_set (i := 3) sc_L_word.nd rfl (Or.inl rfl) (pe_op qaddS (pv 3) (qis (pv 2) (qc T gm_L_draw O_L_draw (hr.mono (by omega)) (pa_cons (pv 0) (pa_cons pe_int pa_nil))))))))
  (pss_one (ps_ret (pv 3)))))))), ?_⟩
  walk_at "rd"
  refine ⟨st, sl, _, rfl, by decide +kernel, by decide +kernel, hS, fun j1 H1 j10 j11 f1 s1 => ?_⟩
  obtain ⟨c, ec, hc⟩ := str_at j10 j11
  walk_at "rd"
  refine rd_ixS hls ec ?_
  walk_at "rd"
  refine ⟨st, sl, 4, rfl, by decide, by decide, s1, fun j2 H2 j20 j21 f2 s2 => ?_⟩
  walk_at "rd"
  refine rd_cut (fun σ' H' => ∃ z : Nat, z ≤ 19 ∧ σ' = [some (.ref st), some (.str "abcpqfxs"), some (.str "abcxyzABCXYZ0189_mMnpqrstuvw"), some (.str ⟨#[c]⟩), some (.int (z : Nat)), none] ∧ Fx st H H' ∧ StX st sl H') ?_ ?_
  · walk_at "rd"
    refine ⟨st, sl, 9, rfl, by decide, by decide, s2, fun j3 H3 j30 j31 f3 s3 => ?_⟩
    walk_at "rd"
    by_cases h3 : j3 = 0
    · refine ift (decide_eq_true (congrArg V.int h3)) ?_
      walk_at "rd"
      refine ⟨st, sl, 2, rfl, by decide, by decide, s3, fun j4 H4 j40 j41 f4 s4 => ?_⟩
      walk_at "rd"
      refine ⟨(18 + j4).toNat, by omega, ?_, ((f1.trans f2).trans f3).trans f4, s4⟩
      rw [Int.toNat_of_nonneg (by omega)] <;> rfl
    · refine iff' (decide_eq_false fun e => h3 (V.int.inj e)) ?_
      refine rd_next ⟨j2.toNat, by omega, ?_, (f1.trans f2).trans f3, s3⟩
      rw [Int.toNat_of_nonneg (by omega)] <;> rfl
  rintro σ' H5 ⟨z, hz, rfl, f5, s5⟩
  walk_at "rd"
  refine ⟨_, rfl, _, rfl, by omega, by omega, for_range (lo := 0) (n := z) (WoW st sl z H) ⟨_, none, rfl, f5, s5, ?_, rfl, fun x hx => ?_, ?_⟩ ?_ ?_⟩
  · unfold isName
    rw [tlw_one]
    exact first_ok c hc
  · rw [tlw_one, List.mem_singleton] at hx
    subst hx
    have := first_ok x hc
    unfold wordc
    rw [this]
    rfl
  · unfold goodH
    rw [tlw_one]
    exact first_good c hc
  · rintro i σ H6 hi ⟨w, x, rfl, f6, s6, n6, l6, c6, g6⟩
    walk_at "rd"
    refine ⟨st, sl, 28, rfl, by decide, by decide, s6, fun j7 H7 j70 j71 f7 s7 => ?_⟩
    obtain ⟨c7, e7, hc7⟩ := str_at (z := "abcxyzABCXYZ0189_mMnpqrstuvw") j70 (by rw [show (Str.ofString "abcxyzABCXYZ0189_mMnpqrstuvw").length = 28 by decide +kernel]; exact j71)
    walk_at "rd"
    refine rd_ixS hch e7 ?_
    refine rd_addS (by rw [one_len, l6]; exact Nat.le_of_lt (small1000 (by omega))) ?_
    walk_at "rd"
    refine ⟨w ++ ⟨#[c7]⟩, _, rfl, f6.trans f7, s7, isName_add n6, by rw [add_len, l6] <;> rfl, fun x hx => ?_, goodH_add g6⟩
    rw [tlw_add, tlw_one] at hx
    rcases List.mem_append.mp hx with hx | hx
    · exact c6 x hx
    · rw [List.mem_singleton] at hx
      subst hx
      exact chars_ok x hc7
  · rintro σ H6 ⟨w, x, rfl, f6, s6, n6, l6, c6, g6⟩
    walk_at "rd"
    exact q w H6 ⟨n6, by omega, c6, g6⟩ f6 s6
abbrev N_L_is_word : List Str := ["_law_word_here"]
theorem sc_L_is_word : FnScope N_L_is_word ["_law_word_here"] (defScope s_L_is_word) := ⟨rfl, rfl, rfl, by decide +kernel, rfl, by decide +kernel, by decide +kernel⟩
theorem ok_L_is_word (T : Txt K mg) (F : Fd K d_L_is_word) : Ok P w K mg base 1 (He.ga K "_law_is_word") ["_law_word_here"] spIsWord := by
  refine ok_mk F sc_L_is_word (fun _ _ _ _ _ _ us hl => match us, hl with | [_], _ => rfl) (fun vs H Q E h => ?_) (fun f cdv A outer s H vs Q E hr h => ?_)
  · obtain ⟨_, rfl, _⟩ := h
    rfl
  obtain ⟨w, rfl, hw, q⟩ := h
  refine ⟨_, (pss_one (ps_ret (pe_and (qcmp op_ne (pv 0) pe_str) (pe_one (qcmp qinC (qis (pv 0) pe_int) pe_str))))), ?_⟩
  walk_at "rd"
  cases e : tlw w with
  | nil =>
    have e0 : w = ("" : Str) := ext_w e
    subst e0
    refine iff' (nF rfl) ?_
    have ew : isW ("" : Str) = false := by decide +kernel
    rw [ew] at q
    exact q
  | cons c r =>
    have e0 : w ≠ ("" : Str) := fun z => by rw [z] at e; cases e
    refine ift (nT e0) ?_
    walk_at "rd"
    refine rd_ixS hw (atI_nat (j := 0) (show (tlw w)[0]? = some c by rw [e] <;> rfl)) ?_
    refine rd_inC ?_
    have ew : isW w = (small c || capital c) := by
      unfold isW isName isVar
      rw [e]
    rw [letter_mem, ← ew]
    exact q
abbrev N_L_gap : List Str := ["_law_state_here", "_law_first", "_law_second", "_law_pick"]
theorem sc_L_gap : FnScope N_L_gap ["_law_state_here", "_law_first", "_law_second"] (defScope s_L_gap) := ⟨rfl, rfl, rfl, by decide +kernel, rfl, by decide +kernel, by decide +kernel⟩
theorem ok_L_gap (T : Txt K mg) (F : Fd K d_L_gap) (O_L_draw : Ok P w K mg base 1 (He.ga K "_law_draw") ["_law_state_here", "_law_many"] spDraw) (O_L_is_word : Ok P w K mg base 1 (He.ga K "_law_is_word") ["_law_word_here"] spIsWord) : Ok P w K mg base 2 (He.ga K "_law_gap") ["_law_state_here", "_law_first", "_law_second"] spGap := by
  refine ok_mk F sc_L_gap (fun _ _ _ _ _ _ us hl => match us, hl with | [_, _, _], _ => rfl) (fun vs H Q E h => ?_) (fun f cdv A outer s H vs Q E hr h => ?_)
  · obtain ⟨_, _, _, _, rfl, _⟩ := h
    rfl
  obtain ⟨st, sl, a, b, rfl, la, lb, hS, q⟩ := h
  refine ⟨_, (pss_cons (ps_set (i := 3) sc_L_gap.nd rfl (Or.inl rfl) (qc T gm_L_draw O_L_draw (hr.mono (by omega)) (pa_cons (pv 0) (pa_cons pe_int pa_nil))))
  (pss_cons (ps_if (qtst op_eq (pv 3) pe_int) (pss_one (ps_ret pe_str)) pss_nil)
  (pss_cons (ps_if (qtst op_eq (pv 3) pe_int) (pss_one (ps_ret pe_str)) pss_nil)
  (pss_cons (ps_if (qtst op_eq (pv 3) pe_int) (pss_one (ps_ret pe_str)) pss_nil)
  (pss_cons (ps_if (PW.pt (pw_and (qtst op_lt (pv 3) pe_int) (pw_and1 (pt_not (PW.pt (pw_and (pt_val (qc T gm_L_is_word O_L_is_word (hr.mono (by omega)) (pa_cons (pv 1) pa_nil))) (pw_and1 (pt_val (qc T gm_L_is_word O_L_is_word (hr.mono (by omega)) (pa_cons (pv 2) pa_nil)))))))))) (pss_one (ps_ret pe_str)) pss_nil)
  (pss_one (ps_ret pe_str))))))), ?_⟩
  walk_at "rd"
  refine ⟨st, sl, 12, rfl, by decide, by decide, hS, fun j H1 j0 j1 f1 s1 => ?_⟩
  have g : ∀ g, g ∈ gaps → Q (.str g) H1 := fun g hg => q g H1 (.inl hg) f1 s1
  walk_at "rd"
  by_cases h0 : j = 0
  · refine ift (decide_eq_true (congrArg V.int h0)) ?_
    walk_at "rd"
    exact g _ (by decide +kernel)
  refine iff' (decide_eq_false fun e => h0 (V.int.inj e)) ?_
  walk_at "rd"
  by_cases h1 : j = 1
  · refine ift (decide_eq_true (congrArg V.int h1)) ?_
    walk_at "rd"
    exact g _ (by decide +kernel)
  refine iff' (decide_eq_false fun e => h1 (V.int.inj e)) ?_
  walk_at "rd"
  by_cases h2 : j = 2
  · refine ift (decide_eq_true (congrArg V.int h2)) ?_
    walk_at "rd"
    exact g _ (by decide +kernel)
  refine iff' (decide_eq_false fun e => h2 (V.int.inj e)) ?_
  walk_at "rd"
  by_cases h7 : j < 7
  · refine ift (decide_eq_true h7) ?_
    walk_at "rd"
    refine ⟨a, rfl, la, ?_⟩
    walk_at "rd"
    cases ha : isW a with
    | false =>
      refine iff' rfl ?_
      refine ift rfl ?_
      walk_at "rd"
      exact q _ H1 (.inr ⟨rfl, fun z => by rw [ha] at z; cases z.1⟩) f1 s1
    | true =>
      refine ift rfl ?_
      walk_at "rd"
      refine ⟨b, rfl, lb, ?_⟩
      walk_at "rd"
      cases hb : isW b with
      | false =>
        refine ift rfl ?_
        walk_at "rd"
        exact q _ H1 (.inr ⟨rfl, fun z => by rw [hb] at z; cases z.2⟩) f1 s1
      | true =>
        refine iff' rfl ?_
        walk_at "rd"
        exact g _ (by decide +kernel)
  · refine iff' (decide_eq_false h7) ?_
    refine iff' rfl ?_
    walk_at "rd"
    exact g _ (by decide +kernel)
end
end Ele
end
section
set_option Elab.async false
set_option linter.all false
set_option maxRecDepth 100000
set_option maxHeartbeats 2000000
namespace Ele
open PySem PySem.Spec PyProof.Rows L2
def ForL (K : PySem.W.Frag) (x : V) (g : TG) (tb : TS) (D : Ends) (σ : L2.St) (H1 : Hp) : Prop := ∃ a, x = .ref a ∧ (∃ xs, SqL K H1 a xs) ∧ ∃ W : Nat → Nat → L2.St → Hp → Prop, (∃ m, W 0 m σ H1) ∧ ∀ i m σ H, W i m σ H →
  ((Itl K a).stop i H ∧ D.nx σ H) ∨ ((Itl K a).go i H ∧ ∃ N : L2.St → Hp → Prop, (∀ σ' H', N σ' H' → ∃ m', m' < m ∧ W (i + 1) m' σ' H') ∧ ∀ x H', (Itl K a).yld i H x H' → g x σ H' fun σ2 H2 => tb { D with nx := N, ct := N, bk := D.nx } σ2 H2)
theorem rd_forL {K : PySem.W.Frag} {tl : TE} {g : TG} {tb : TS} {D : Ends} {σ : L2.St} {H : Hp} (q : tl σ H fun x H1 => ForL K x g tb D σ H1) : tFor (iList K tl) g tb D σ H := q
theorem rd_forLn {K : PySem.W.Frag} {a : Addr} {xs : List V} {k : Nat} {tb : TS} {D : Ends} {σ : L2.St} {H : Hp} (Pv : Nat → L2.St → Hp → Prop) (h0 : Pv 0 σ H) (hl : ∀ i σ H, Pv i σ H → SqL K H a xs)
    (hs : ∀ i x σ H, xs[i]? = some x → Pv i σ H → tb { D with nx := Pv (i + 1), ct := Pv (i + 1), bk := D.nx } (σ.set k (some x)) H) (hd : ∀ σ H, Pv xs.length σ H → D.nx σ H) : ForL K (.ref a) (gName k) tb D σ H :=
  ⟨a, rfl, ⟨xs, hl 0 σ H h0⟩, for_list Pv h0 (fun i σ H _ p => hl i σ H p) (fun i x σ H hx p => hs i x σ H hx p) hd⟩
def ForS (v : V) (g : TG) (tb : TS) (D : Ends) (σ : L2.St) (H1 : Hp) : Prop := ∃ x, v = .str x ∧ ∃ W : Nat → Nat → L2.St → Hp → Prop, (∃ m, W 0 m σ H1) ∧ ∀ i m σ H, W i m σ H →
  ((Its x).stop i H ∧ D.nx σ H) ∨ ((Its x).go i H ∧ ∃ N : L2.St → Hp → Prop, (∀ σ' H', N σ' H' → ∃ m', m' < m ∧ W (i + 1) m' σ' H') ∧ ∀ x' H', (Its x).yld i H x' H' → g x' σ H' fun σ2 H2 => tb { D with nx := N, ct := N, bk := D.nx } σ2 H2)
theorem rd_forS {te : TE} {g : TG} {tb : TS} {D : Ends} {σ : L2.St} {H : Hp} (q : te σ H fun x H1 => ForS x g tb D σ H1) : tFor (iStr te) g tb D σ H := q
/-- over a text, where the signs don't matter -/
theorem rd_forSn {x : Str} {k : Nat} {tb : TS} {D : Ends} {σ : L2.St} {H : Hp} (Pv : L2.St → Hp → Prop) (h0 : Pv σ H) (hs : ∀ (c : Nat) σ H, Pv σ H → tb { D with nx := Pv, ct := Pv, bk := D.nx } (σ.set k (some (.str ⟨#[c]⟩))) H) (hd : ∀ σ H, Pv σ H → D.nx σ H) : ForS (.str x) (gName k) tb D σ H := by
  refine ⟨x, rfl, fun i m σ H => m = x.cps.size - i ∧ i ≤ x.cps.size ∧ Pv σ H, ⟨x.cps.size, rfl, Nat.zero_le _, h0⟩, ?_⟩
  rintro i m σ H ⟨rfl, hi, p⟩
  by_cases hlt : i < x.cps.size
  · refine .inr ⟨hlt, Pv, fun σ' H' p' => ⟨x.cps.size - (i + 1), by omega, rfl, hlt, p'⟩, ?_⟩
    rintro v H' ⟨rfl, c, _, rfl⟩
    exact hs c σ H' p
  · exact .inl ⟨Nat.le_of_not_lt hlt, hd σ H p⟩
end Ele
end
section
set_option Elab.async false
set_option linter.all false
set_option maxRecDepth 100000
set_option maxHeartbeats 2000000
local macro_rules | `(tactic| walk_at "rd") => `(tactic| repeat (first
  | with_reducible refine' Ele.rd_seq ?_
  | with_reducible refine' Ele.rd_asg ?_
  | with_reducible refine' Ele.rd_name ?_
  | with_reducible refine' Ele.rd_op ?_
  | ((with_reducible refine' Ele.rd_var ?hv ?_); (case hv => rfl))
  | with_reducible refine' Ele.rd_c ?_
  | with_reducible refine' Ele.rd_rI0 ?_
  | ((with_reducible refine' Ele.rd_eq ?hs ?_); (case hs => rfl))
  | ((with_reducible refine' Ele.rd_ne ?hs ?_); (case hs => rfl))
  | with_reducible refine' Ele.rd_test ?_
  | with_reducible refine' Ele.rd_k ?_
  | with_reducible refine' Ele.rd_if ?_
  | with_reducible refine' Ele.rd_drop ?_
  | with_reducible refine' Ele.rd_ret ?_
  | with_reducible refine' Ele.rd_retN ?_
  | with_reducible refine' Ele.rd_next ?_
  | with_reducible refine' Ele.rd_brk ?_
  | ((with_reducible refine' Ele.rd_aug ?hs ?_); (case hs => rfl))
  | with_reducible refine' Ele.rd_ipI ?_
  | with_reducible refine' Ele.rd_cons ?_
  | with_reducible refine' Ele.rd_nil ?_
  | with_reducible refine' Ele.rd_cl ?_
  | with_reducible refine' Ele.rd_mk ?_
  | with_reducible refine' Ele.rd_cb ?_
  | with_reducible refine' Ele.rd_tup ?_
  | with_reducible refine' Ele.rd_lst ?_
  | with_reducible refine' Ele.rd_not ?_
  | with_reducible refine' Ele.rd_notV ?_
  | with_reducible refine' Ele.rd_and ?_
  | with_reducible refine' Ele.rd_or ?_
  | with_reducible refine' Ele.rd_andV ?_
  | with_reducible refine' Ele.rd_orV ?_
  | with_reducible refine' Ele.rd_add ?_
  | with_reducible refine' Ele.rd_max ?_
  | with_reducible refine' Ele.rd_int ?_
  | with_reducible refine' Ele.rd_tB ?_
  | with_reducible refine' Ele.rd_un ?_
  | ((with_reducible refine' Ele.rd_lenL ?h ?_); (case h => exact Ele.sl_of (by assumption)))
  | ((with_reducible refine' Ele.rd_lenT ?h ?_); (case h => exact Ele.st_of (by assumption)))
  | ((with_reducible refine' Ele.rd_lenS ?h ?_); (case h => assumption))
  | with_reducible refine' Ele.rd_sl ?_
  | with_reducible refine' Ele.rd_part ?_
  | with_reducible refine' Ele.rd_pi ?_
  | ((with_reducible refine' Ele.rd_slS ?h ?_); (case h => assumption))
  | with_reducible refine' Ele.rd_inC ?_
  | ((with_reducible refine' Ele.rd_ixL ?h ?e ?_); (case h => exact Ele.sl_of (by assumption)); (case e => rfl))
  | with_reducible refine' Ele.rd_forL ?_
  | with_reducible refine' Ele.rd_forS ?_
  | with_reducible refine' Ele.rd_fld ?_
  | with_reducible refine' Ele.rd_mt0 ?_
  | ((with_reducible refine' Ele.rd_row ?hT ?hR ?_); (case hT => assumption); (case hR => assumption))
  | ((with_reducible refine' Ele.rd_at ?hT ?hR ?_); (case hT => assumption); (case hR => assumption))
  | ((with_reducible refine' Ele.rd_opc ?hT ?hR ?_); (case hT => assumption); (case hR => assumption))
  | ((with_reducible refine' Ele.rd_scp ?hT ?hR ?_); (case hT => assumption); (case hR => assumption))
  | ((with_reducible refine' Ele.rd_mt ?hR ?hm ?_); (case hR => assumption); (case hm => decide +kernel))
  | ((with_reducible refine' Ele.rd_word ?hR ?_); (case hR => assumption))
  | ((with_reducible refine' Ele.rd_kind ?hR ?_); (case hR => assumption))
  | ((with_reducible refine' Ele.rd_gtup2 ?h ?hn ?_); (case h => assumption); (case hn => rfl))
  | with_reducible refine' Ele.rd_gcons ?_
  | with_reducible refine' Ele.rd_gnil ?_
  | with_reducible refine' Ele.rd_gsub ?_
  | with_reducible refine' Ele.rd_fldset ?_
  ))
namespace Ele
open PySem PySem.Spec PyProof.Rows L2
def spJoined : Sp := fun vs H Q _ => ∃ (st sl wl : Addr) (ws : List Str), vs = [.ref st, .ref wl] ∧ H wl = some (.lst (ws.map V.str)) ∧ wt ws ≤ 20000 ∧ (∀ w ∈ ws, w.length ≤ 20) ∧ StX st sl H ∧
  ∀ (p pl : Addr) (pr t : Str) (H' : Hp), Jt (ws ++ [("" : Str)]) pr t → Fx st H H' → StX st sl H' → H' p = some (.tup [.str t, .ref pl]) → Q (.ref p) H'
def spNames : Sp := fun vs H Q _ => ∃ (st sl : Addr), vs = [.ref st] ∧ StX st sl H ∧ ∀ (nl : Addr) (ns : List Str) (k : Int) (H' : Hp), ns.length = 6 → (∀ f ∈ ns, Nm f) → (∀ f ∈ ns, goodH f = true) → (k = 2 ∨ k = 3 ∨ k = (8 : Int)) → Fx st H H' → StX st sl H' → H' nl = some (.lst (ns.map V.str ++ [.int k])) → Q (.ref nl) H'
theorem wt_take (l : List Str) (i : Nat) : wt (l.take i) ≤ wt l := by
  have e := wt_add (l.take i) (l.drop i)
  rw [List.take_append_drop] at e
  omega
theorem len_wt : ∀ l : List Str, 14 * l.length ≤ wt l
  | [] => Nat.zero_le _
  | w :: r => by
    have := len_wt r
    simp only [wt, List.length_cons]
    omega
/-- among the words -/
def JoW (st sl wl al pl : Addr) (ws : List Str) (H0 : Hp) (i : Nat) (σ : L2.St) (H : Hp) : Prop :=
  ∃ (t p : Str) (ps : List V) (a b : Int) (x y u : Option V), σ = [some (.ref st), some (.ref wl), some (.str t), some (.ref pl), some (.int a), some (.int b), some (.str p), x, y, u] ∧ Fx st H0 H ∧ StX st sl H ∧ H al = some (.lst ((ws ++ [("" : Str)]).map V.str)) ∧ H pl = some (.lst ps) ∧ ps.length = i ∧
    Jt ((ws ++ [("" : Str)]).take i) p t ∧ p.length ≤ 20
section
variable {P : Program} {w : World} {K : PySem.W.Frag} {mg : Str → Option Value} {base : Heap} {n : Nat}
abbrev N_L_joined : List Str := ["_law_state_here", "_law_words_here", "_law_text", "_law_places", "_law_line", "_law_column", "_law_before", "_law_word_here", "_law_gap_here", "_law_char"]
theorem sc_L_joined : FnScope N_L_joined ["_law_state_here", "_law_words_here"] (defScope s_L_joined) := ⟨rfl, rfl, rfl, by decide +kernel, rfl, by decide +kernel, by decide +kernel⟩
theorem ok_L_joined (T : Txt K mg) (F : Fd K d_L_joined) (O_L_gap : Ok P w K mg base 2 (He.ga K "_law_gap") ["_law_state_here", "_law_first", "_law_second"] spGap) : Ok P w K mg base 3 (He.ga K "_law_joined") ["_law_state_here", "_law_words_here"] spJoined := by
  refine ok_mk F sc_L_joined (fun _ _ _ _ _ _ us hl => match us, hl with | [_, _], _ => rfl) (fun vs H Q E h => ?_) (fun f cdv A outer s H vs Q E hr h => ?_)
  · obtain ⟨_, _, _, _, rfl, _⟩ := h
    rfl
  obtain ⟨st, sl, wl, ws, rfl, hw, hwt, hlen, hS, q⟩ := h
  have hln := len_wt ws
  refine ⟨_, (pss_cons (ps_set (i := 2) sc_L_joined.nd rfl (Or.inl rfl) pe_str)
  (pss_cons (ps_set (i := 3) sc_L_joined.nd rfl (Or.inl rfl) (pe_lst pa_nil))
  (pss_cons (ps_set (i := 4) sc_L_joined.nd rfl (Or.inl rfl) pe_int)
  (pss_cons (ps_set (i := 5) sc_L_joined.nd rfl (Or.inl rfl) pe_int)
  (pss_cons (ps_set (i := 6) sc_L_joined.nd rfl (Or.inl rfl) pe_str)
  (pss_cons (ps_for PassesOwn.never rfl (qpl K (pe_op op_cat (pv 1) (pe_lst (pa_cons pe_str pa_nil)))) (pg_name (i := 7) sc_L_joined.nd rfl (Or.inl rfl)) (pss_cons (ps_set (i := 8) sc_L_joined.nd rfl (Or.inl rfl) (qc T gm_L_gap O_L_gap (hr.mono (by omega)) (pa_cons (pv 0) (pa_cons (pv 6) (pa_cons (pv 7) pa_nil)))))
  (pss_cons (ps_for PassesOwn.never rfl (pi_str (pv 8)) (pg_name (i := 9) sc_L_joined.nd rfl (Or.inl rfl)) (pss_cons (ps_set (i := 5) sc_L_joined.nd rfl (Or.inl rfl) (pe_op op_add (pv 5) pe_int))
  (pss_one (ps_if (qtst op_eq (pv 9) pe_str) (pss_cons (ps_set (i := 4) sc_L_joined.nd rfl (Or.inl rfl) (pe_op op_add (pv 4) pe_int))
  (pss_one (ps_set (i := 5) sc_L_joined.nd rfl (Or.inl rfl) pe_int))) pss_nil))))
  (pss_cons (ps_set (i := 2) sc_L_joined.nd rfl (Or.inl rfl) (pe_op qaddS (pv 2) (pv 8)))
  (pss_cons (ps_expr (qbm K mt_append (pv 3) (pa_cons (pe_tup (pa_cons (pv 4) (pa_cons (pv 5) pa_nil))) pa_nil)))
  (pss_cons (ps_set (i := 2) sc_L_joined.nd rfl (Or.inl rfl) (pe_op qaddS (pv 2) (pv 7)))
  (pss_cons (ps_set (i := 5) sc_L_joined.nd rfl (Or.inl rfl) (pe_op op_add (pv 5) (qcb qlenS T fm_len bl_len (pa_cons (pv 7) pa_nil))))
  (pss_one (ps_set (i := 6) sc_L_joined.nd rfl (Or.inl rfl) (pv 7))))))))))
  (pss_one (ps_ret (pe_tup (pa_cons (pv 2) (pa_cons (pv 3) pa_nil))))))))))), ?_⟩
  walk_at "rd"
  refine rd_newL fun pl H1 hpl x1 e1 => ?_
  have s1 := hS.ex x1
  obtain ⟨np1, np2⟩ := hS.fresh hpl
  walk_at "rd"
  refine rd_newL fun b2 H2 hb2 x2 e2 => ?_
  walk_at "rd"
  refine rd_cat (x2 _ _ (x1 _ _ hw)) e2 ?_ fun al H3 hal x3 e3 => ?_
  · rw [List.length_map, List.length_singleton]
    exact Nat.le_of_lt (Nat.lt_of_le_of_lt (show _ ≤ 20000 by omega) (by decide))
  have s3 := (s1.ex x2).ex x3
  have nap : al ≠ pl := (ne_of_none (x2 _ _ e1) hal).symm
  have e3' : H3 al = some (.lst ((ws ++ [("" : Str)]).map V.str)) := by rw [e3, List.map_append] <;> rfl
  refine rd_forLn (xs := (ws ++ [("" : Str)]).map V.str) (JoW st sl wl al pl ws H) ⟨"", "", [], 1, 1, none, none, none, rfl, ((x1.trans x2).trans x3).fx, s3, e3', x3 _ _ (x2 _ _ e1), rfl, .nil, by decide +kernel⟩ ?_ ?_ ?_
  · rintro i σ H' ⟨_, _, _, _, _, _, _, _, _, _, _, e, _⟩
    exact sl_of e
  · rintro i x0 σ H4 hx0 ⟨t, p, ps, a, b, x, y, u, rfl, f4, s4, a4, p4, l4, j4, lp⟩
    obtain ⟨wd, hwd, rfl⟩ : ∃ wd, (ws ++ [("" : Str)])[i]? = some wd ∧ x0 = V.str wd := by
      rw [List.getElem?_map] at hx0
      cases hq : (ws ++ [("" : Str)])[i]? with
      | none => rw [hq] at hx0; cases hx0
      | some s => rw [hq] at hx0; exact ⟨s, rfl, (Option.some.inj hx0).symm⟩
    have hi : i < ws.length + 1 := by
      have := (List.getElem?_eq_some_iff.mp hwd).1
      rw [List.length_append] at this
      exact this
    have lw : wd.length ≤ 20 := by
      rcases List.mem_append.mp (List.mem_of_getElem? hwd) with h | h
      · exact hlen _ h
      · rw [List.mem_singleton.mp h]; decide +kernel
    have lwz : wd.length ≤ sizeLine := Nat.le_trans lw (by decide)
    have lt : t.length ≤ 20014 := by
      have h1 := jt_len j4
      have h2 := wt_take (ws ++ [("" : Str)]) i
      have h3 := wt_add ws [("" : Str)]
      have h4 : wt [("" : Str)] = 14 := by decide +kernel
      omega
    walk_at "rd"
    refine ⟨st, sl, p, wd, rfl, Nat.le_trans lp (by decide), lwz, s4, fun g H5 hg f5 s5 => ?_⟩
    have lg := gap_len hg
    walk_at "rd"
    refine rd_forSn (fun σ' H' => H' = H5 ∧ ∃ (a b : Int) (u : Option V), σ' = [some (.ref st), some (.ref wl), some (.str t), some (.ref pl), some (.int a), some (.int b), some (.str p), some (.str wd), some (.str g), u]) ⟨rfl, a, b, u, rfl⟩ ?_ ?_
    · rintro c σ' H' ⟨rfl, a, b, u, rfl⟩
      walk_at "rd"
      by_cases hc : (⟨#[c]⟩ : Str) = "\n"
      · refine ift (dT hc) ?_
        walk_at "rd"
        exact ⟨rfl, _, _, _, rfl⟩
      · refine iff' (dF hc) ?_
        exact rd_next ⟨rfl, _, _, _, rfl⟩
    rintro σ' H' ⟨rfl, a, b, u, rfl⟩
    walk_at "rd"
    refine rd_addS (Nat.le_trans (show _ ≤ 20100 by omega) (by decide)) ?_
    have p5 : H' pl = some (.lst ps) := f5 _ _ np1 p4
    have a5 : H' al = some (.lst ((ws ++ [("" : Str)]).map V.str)) := s4.strs f5 a4
    walk_at "rd"
    refine rd_bm rfl p5 ?_
    walk_at "rd"
    refine rd_newT fun b6 H6 hb6 x6 e6 => ?_
    walk_at "rd"
    refine rd_app (x6 _ _ p5) (Nat.lt_of_le_of_lt (show _ ≤ 20000 by omega) (by decide)) ?_
    walk_at "rd"
    refine rd_addS (by rw [add_len]; exact Nat.le_trans (show _ ≤ 20100 by omega) (by decide)) ?_
    walk_at "rd"
    have s6 := s5.ex x6
    refine ⟨t ++ g ++ wd, wd, _, _, _, _, _, u, rfl, Fx.mut ((f4.trans f5).ex x6) hpl, s6.mut np1 np2, by rw [upd_ne nap]; exact x6 _ _ a5, upd_same, by rw [List.length_append, l4] <;> rfl, ?_, lw⟩
    have et : (ws ++ [("" : Str)]).take (i + 1) = (ws ++ [("" : Str)]).take i ++ [wd] := by rw [List.take_succ, hwd] <;> rfl
    rw [et]
    exact .snoc j4 hg
  · rintro σ H4 ⟨t, p, ps, a, b, x, y, u, rfl, f4, s4, a4, p4, l4, j4, lp⟩
    rw [List.length_map, List.take_length] at j4
    walk_at "rd"
    refine rd_newT fun b6 H6 hb6 x6 e6 => ?_
    exact q b6 pl p t H6 j4 (f4.ex x6) (s4.ex x6) e6
theorem z_ok : ∀ i, i < 6 → isName ((("z" : Str) ++ (Str.ofString (toString ((0 : Int) + (i : Nat)))) : Str)) = true ∧ (("z" : Str) ++ (Str.ofString (toString ((0 : Int) + (i : Nat)))) : Str) ∉ reserved ∧ (("z" : Str) ++ (Str.ofString (toString ((0 : Int) + (i : Nat)))) : Str).length ≤ 20 ∧ (∀ c ∈ tlw (("z" : Str) ++ (Str.ofString (toString ((0 : Int) + (i : Nat)))) : Str), wordc c = true) ∧ goodH ((("z" : Str) ++ (Str.ofString (toString ((0 : Int) + (i : Nat)))) : Str)) = true := by decide +kernel
def NaW (st sl nl : Addr) (H0 : Hp) (i : Nat) (σ : L2.St) (H : Hp) : Prop := ∃ (ns : List Str) (x y : Option V), σ = [some (.ref st), some (.ref nl), x, y] ∧ Fx st H0 H ∧ StX st sl H ∧ H nl = some (.lst (ns.map V.str)) ∧ ns.length = i ∧ ∀ f ∈ ns, Nm f ∧ goodH f = true
abbrev N_L_names : List Str := ["_law_state_here", "_law_names_here", "_law_at", "_law_word_here"]
theorem sc_L_names : FnScope N_L_names ["_law_state_here"] (defScope s_L_names) := ⟨rfl, rfl, rfl, by decide +kernel, rfl, by decide +kernel, by decide +kernel⟩
theorem ok_L_names (T : Txt K mg) (F : Fd K d_L_names) (O_L_draw : Ok P w K mg base 1 (He.ga K "_law_draw") ["_law_state_here", "_law_many"] spDraw) (O_L_word : Ok P w K mg base 2 (He.ga K "_law_word") ["_law_state_here", "_law_letters"] spWordL) : Ok P w K mg base 3 (He.ga K "_law_names") ["_law_state_here"] spNames := by
  refine ok_mk F sc_L_names (fun _ _ _ _ _ _ us hl => match us, hl with | [_], _ => rfl) (fun vs H Q E h => ?_) (fun f cdv A outer s H vs Q E hr h => ?_)
  · obtain ⟨_, _, rfl, _⟩ := h
    rfl
  obtain ⟨st, sl, rfl, hS, q⟩ := h
  refine ⟨_, (pss_cons (ps_set (i := 1) sc_L_names.nd rfl (Or.inl rfl) (pe_lst pa_nil))
  (pss_cons (ps_for PassesOwn.never rfl (pi_range1 rfl (T.free _ fm_range) (pa_cons pe_int pa_nil)) (pg_name (i := 2) sc_L_names.nd rfl (Or.inl rfl)) (pss_cons (ps_set (i := 3) sc_L_names.nd rfl (Or.inl rfl) (qc T gm_L_word O_L_word (hr.mono (by omega)) (pa_cons (pv 0) (pa_cons pe_str pa_nil))))
  (Evl.pss_cut (ps_if (PW.pt (pw_or (qtst (qin K) (pv 3) (pe_lst (pa_cons pe_str (pa_cons pe_str (pa_cons pe_str (pa_cons pe_str (pa_cons pe_str (pa_cons pe_str pa_nil)))))))) (pw_or1 (qtst (qin K) (pv 3) (pv 1))))) (pss_one (ps_set (i := 3) sc_L_names.nd rfl (Or.inl rfl) (pe_op qaddS pe_str (qct qstrI T fm_str bt_str (pa_cons (pv 2) pa_nil))))) pss_nil)
  (pss_one (ps_expr (qbm K mt_append (pv 1) (pa_cons (pv 3) pa_nil)))))))
  (pss_cons (ps_expr (qbm K mt_append (pv 1) (pa_cons (qil K (pe_lst (pa_cons pe_int (pa_cons pe_int (pa_cons pe_int (pa_cons pe_int pa_nil))))) (qc T gm_L_draw O_L_draw (hr.mono (by omega)) (pa_cons (pv 0) (pa_cons pe_int pa_nil)))) pa_nil)))
  (pss_one (ps_ret (pv 1)))))), ?_⟩
  walk_at "rd"
  refine rd_newL fun nl H1 hnl x1 e1 => ?_
  obtain ⟨nn1, nn2⟩ := hS.fresh hnl
  walk_at "rd"
  refine ⟨6, rfl, by decide, by decide, for_range (lo := 0) (n := 6) (NaW st sl nl H) ⟨[], none, none, rfl, x1.fx, hS.ex x1, e1, rfl, fun f hf => by cases hf⟩ ?_ ?_⟩
  · rintro i σ H2 hi ⟨ns, x, y, rfl, f2, s2, e2, l2, n2⟩
    walk_at "rd"
    refine ⟨st, sl, rfl, s2, fun wd H3 hw f3 s3 => ?_⟩
    have e3 := s2.strs f3 e2
    walk_at "rd"
    refine rd_cut (fun σ' H' => ∃ wd, (Nm wd ∧ goodH wd = true) ∧ σ' = [some (.ref st), some (.ref nl), some (.int ((0 : Int) + (i : Nat))), some (.str wd)] ∧ Ex H3 H') ?_ ?_
    · walk_at "rd"
      refine rd_newL fun b4 H4 hb4 x4 e4 => ?_
      have zed : ∀ H', Ex H3 H' → ∃ wd, (Nm wd ∧ goodH wd = true) ∧ [some (V.ref st), some (.ref nl), some (.int ((0 : Int) + (i : Nat))), some (.str (("z" : Str) ++ (Str.ofString (toString ((0 : Int) + (i : Nat))))))] = [some (V.ref st), some (.ref nl), some (.int ((0 : Int) + (i : Nat))), some (.str wd)] ∧ Ex H3 H' := fun H' x => ⟨_, ⟨⟨(z_ok i hi).1, (z_ok i hi).2.1, (z_ok i hi).2.2.1, (z_ok i hi).2.2.2.1⟩, (z_ok i hi).2.2.2.2⟩, rfl, x⟩
      have lz := (z_ok i hi).2.2.1
      rw [add_len] at lz
      have lg : ((0 : Int) + (i : Nat)).natAbs.log2 < 1920 := by
        have : ∀ i, i < 6 → ((0 : Int) + (i : Nat)).natAbs.log2 < 1920 := by decide
        exact this i hi
      walk_at "rd"
      refine rd_inL (xs := reserved.map V.str) (sl_of e4) rfl (flat_strs _) ?_
      rw [if_neg Bool.false_ne_true, inV_strs]
      walk_at "rd"
      by_cases h1 : wd ∈ reserved
      · refine ift (decide_eq_true h1) ?_
        refine ift rfl ?_
        walk_at "rd"
        refine ⟨_, rfl, lg, ?_⟩
        refine rd_addS (Nat.le_trans lz (by decide)) ?_
        walk_at "rd"
        exact zed H4 x4
      · refine iff' (decide_eq_false h1) ?_
        walk_at "rd"
        refine rd_inL (sl_of (x4 _ _ e3)) rfl (flat_strs _) ?_
        rw [if_neg Bool.false_ne_true, inV_strs]
        walk_at "rd"
        by_cases h2 : wd ∈ ns
        · refine ift (decide_eq_true h2) ?_
          walk_at "rd"
          refine ⟨_, rfl, lg, ?_⟩
          refine rd_addS (Nat.le_trans lz (by decide)) ?_
          walk_at "rd"
          exact zed H4 x4
        · refine iff' (decide_eq_false h2) ?_
          exact rd_next ⟨wd, ⟨⟨hw.1, h1, hw.2.1, hw.2.2.1⟩, hw.2.2.2⟩, rfl, x4⟩
    rintro σ' H4 ⟨wd, hw, rfl, x4⟩
    walk_at "rd"
    refine rd_bm rfl (x4 _ _ e3) ?_
    walk_at "rd"
    refine rd_app (x4 _ _ e3) (by rw [List.length_map]; exact small1000 (by omega)) ?_
    walk_at "rd"
    refine ⟨ns ++ [wd], _, _, rfl, Fx.mut ((f2.trans f3).ex x4) hnl, (s3.ex x4).mut nn1 nn2, by rw [upd_same, List.map_append] <;> rfl, by rw [List.length_append, l2] <;> rfl, fun f hf => ?_⟩
    rcases List.mem_append.mp hf with hf | hf
    · exact n2 f hf
    · rw [List.mem_singleton.mp hf]; exact hw
  · rintro σ H2 ⟨ns, x, y, rfl, f2, s2, e2, l2, n2⟩
    walk_at "rd"
    refine rd_bm rfl e2 ?_
    walk_at "rd"
    refine rd_newL fun b3 H3 hb3 x3 e3 => ?_
    have s3 := s2.ex x3
    walk_at "rd"
    refine ⟨st, sl, 4, rfl, by decide, by decide, s3, fun j H4 j0 j1 f4 s4 => ?_⟩
    have e4 := f4 _ _ (s3.apart e3 (fun b r z => by cases z)) e3
    have e4n := s3.strs f4 (x3 _ _ e2)
    have hj : ∃ k : Int, (k = 2 ∨ k = 3 ∨ k = 8) ∧ atI [V.int 2, .int 2, .int 3, .int 8] j = some (.int k) := by
      have : j = 0 ∨ j = 1 ∨ j = 2 ∨ j = 3 := by omega
      rcases this with rfl | rfl | rfl | rfl
      · exact ⟨2, .inl rfl, rfl⟩
      · exact ⟨2, .inl rfl, rfl⟩
      · exact ⟨3, .inr (.inl rfl), rfl⟩
      · exact ⟨8, .inr (.inr rfl), rfl⟩
    obtain ⟨k, hk, ek⟩ := hj
    refine rd_ixL (sl_of e4) ek ?_
    walk_at "rd"
    refine rd_app e4n (by rw [List.length_map]; exact small1000 (by omega)) ?_
    walk_at "rd"
    exact q nl ns k _ l2 (fun f hf => (n2 f hf).1) (fun f hf => (n2 f hf).2) hk (Fx.mut ((f2.ex x3).trans f4) hnl) (s4.mut nn1 nn2) upd_same
end
end Ele
end
section
set_option Elab.async false
set_option linter.all false
set_option maxRecDepth 100000
set_option maxHeartbeats 2000000
local macro_rules | `(tactic| walk_at "rd") => `(tactic| repeat (first
  | with_reducible refine' Ele.rd_seq ?_
  | with_reducible refine' Ele.rd_asg ?_
  | with_reducible refine' Ele.rd_name ?_
  | with_reducible refine' Ele.rd_op ?_
  | ((with_reducible refine' Ele.rd_var ?hv ?_); (case hv => rfl))
  | with_reducible refine' Ele.rd_c ?_
  | with_reducible refine' Ele.rd_rI0 ?_
  | ((with_reducible refine' Ele.rd_eq ?hs ?_); (case hs => rfl))
  | ((with_reducible refine' Ele.rd_ne ?hs ?_); (case hs => rfl))
  | with_reducible refine' Ele.rd_test ?_
  | with_reducible refine' Ele.rd_k ?_
  | with_reducible refine' Ele.rd_if ?_
  | with_reducible refine' Ele.rd_drop ?_
  | with_reducible refine' Ele.rd_ret ?_
  | with_reducible refine' Ele.rd_retN ?_
  | with_reducible refine' Ele.rd_next ?_
  | with_reducible refine' Ele.rd_brk ?_
  | ((with_reducible refine' Ele.rd_aug ?hs ?_); (case hs => rfl))
  | with_reducible refine' Ele.rd_ipI ?_
  | with_reducible refine' Ele.rd_cons ?_
  | with_reducible refine' Ele.rd_nil ?_
  | with_reducible refine' Ele.rd_cl ?_
  | with_reducible refine' Ele.rd_mk ?_
  | with_reducible refine' Ele.rd_cb ?_
  | with_reducible refine' Ele.rd_tup ?_
  | with_reducible refine' Ele.rd_lst ?_
  | with_reducible refine' Ele.rd_not ?_
  | with_reducible refine' Ele.rd_notV ?_
  | with_reducible refine' Ele.rd_and ?_
  | with_reducible refine' Ele.rd_or ?_
  | with_reducible refine' Ele.rd_andV ?_
  | with_reducible refine' Ele.rd_orV ?_
  | with_reducible refine' Ele.rd_add ?_
  | with_reducible refine' Ele.rd_max ?_
  | with_reducible refine' Ele.rd_int ?_
  | with_reducible refine' Ele.rd_tB ?_
  | with_reducible refine' Ele.rd_un ?_
  | ((with_reducible refine' Ele.rd_lenL ?h ?_); (case h => exact Ele.sl_of (by assumption)))
  | ((with_reducible refine' Ele.rd_lenT ?h ?_); (case h => exact Ele.st_of (by assumption)))
  | ((with_reducible refine' Ele.rd_lenS ?h ?_); (case h => assumption))
  | with_reducible refine' Ele.rd_sl ?_
  | with_reducible refine' Ele.rd_part ?_
  | with_reducible refine' Ele.rd_pi ?_
  | ((with_reducible refine' Ele.rd_slS ?h ?_); (case h => assumption))
  | with_reducible refine' Ele.rd_inC ?_
  | ((with_reducible refine' Ele.rd_ixL ?h ?e ?_); (case h => exact Ele.sl_of (by assumption)); (case e => rfl))
  | with_reducible refine' Ele.rd_forL ?_
  | with_reducible refine' Ele.rd_forS ?_
  | with_reducible refine' Ele.rd_fld ?_
  | with_reducible refine' Ele.rd_mt0 ?_
  | ((with_reducible refine' Ele.rd_row ?hT ?hR ?_); (case hT => assumption); (case hR => assumption))
  | ((with_reducible refine' Ele.rd_at ?hT ?hR ?_); (case hT => assumption); (case hR => assumption))
  | ((with_reducible refine' Ele.rd_opc ?hT ?hR ?_); (case hT => assumption); (case hR => assumption))
  | ((with_reducible refine' Ele.rd_scp ?hT ?hR ?_); (case hT => assumption); (case hR => assumption))
  | ((with_reducible refine' Ele.rd_mt ?hR ?hm ?_); (case hR => assumption); (case hm => decide +kernel))
  | ((with_reducible refine' Ele.rd_word ?hR ?_); (case hR => assumption))
  | ((with_reducible refine' Ele.rd_kind ?hR ?_); (case hR => assumption))
  | ((with_reducible refine' Ele.rd_gtup2 ?h ?hn ?_); (case h => assumption); (case hn => rfl))
  | with_reducible refine' Ele.rd_gcons ?_
  | with_reducible refine' Ele.rd_gnil ?_
  | with_reducible refine' Ele.rd_gsub ?_
  | with_reducible refine' Ele.rd_fldset ?_
  ))
namespace Ele
open PySem PySem.Spec PyProof.Rows L2
theorem rd_intB {H : Hp} {Q : VK} {k : Bool} (q : Q (.int (if k then 1 else 0)) H) : rIntI [.bl k] H Q := .inr ⟨k, rfl, q⟩
mutual
theorem tmd_flat : ∀ t : Tm, flatT t.d = true
  | .var x => by simp only [Tm.d, flatT]
  | .app f a => by simp only [Tm.d, flatT, flatTs, tmds_flat a, Bool.and_self]
theorem tmds_flat : ∀ a : List Tm, flatTs (Tm.ds a) = true
  | [] => by simp only [Tm.ds, flatTs]
  | x :: a => by simp only [Tm.ds, flatTs, tmd_flat x, tmds_flat a, Bool.and_self]
end
theorem fmd_flat : ∀ f : Fm, flatT f.d = true
  | .tt b => by simp only [Fm.d, flatT, flatTs, Bool.and_self]
  | .pr s => flat3 (tmd_flat s) (by simp only [trueD, flatT, flatTs, Bool.and_self])
  | .eq s t => flat3 (tmd_flat s) (tmd_flat t)
  | .neg f => flat2 (fmd_flat f)
  | .bin k f g => flat3 (fmd_flat f) (fmd_flat g)
  | .qu q x f => flat3 (by simp only [flatT]) (fmd_flat f)
theorem ds_snoc {a : Tm} : ∀ l : List Tm, Tm.ds (l ++ [a]) = Tm.ds l ++ [a.d]
  | [] => by simp only [List.nil_append, Tm.ds]
  | x :: l => by simp only [List.cons_append, Tm.ds, ds_snoc l]
/-- the law's names -/
structure NmX (nl : Addr) (ns : List Str) (k : Int) (H : Hp) : Prop where
  six : ns.length = 6
  nm : ∀ f ∈ ns, Nm f
  many : k = 2 ∨ k = 3 ∨ k = 8
  obj : H nl = some (.lst (ns.map V.str ++ [.int k]))
section
variable {st sl nl : Addr} {ns : List Str} {k : Int} {H H' : Hp}
theorem NmX.fx (h : NmX nl ns k H) (s : StX st sl H) (f : Fx st H H') : NmX nl ns k H' := ⟨h.six, h.nm, h.many, f _ _ (s.apart h.obj fun b r e => by cases strs_no b r e) h.obj⟩
theorem NmX.ex (h : NmX nl ns k H) (f : Ex H H') : NmX nl ns k H' := ⟨h.six, h.nm, h.many, f _ _ h.obj⟩
theorem NmX.mut (h : NmX nl ns k H) {l : Addr} {o : HO} (h1 : nl ≠ l) : NmX nl ns k (upd H l o) := ⟨h.six, h.nm, h.many, by rw [upd_ne h1]; exact h.obj⟩
theorem NmX.at (h : NmX nl ns k H) {j : Int} (h0 : 0 ≤ j) (h1 : j < 6) : ∃ f, Nm f ∧ atI (ns.map V.str ++ [.int k]) j = some (.str f) := by
  have hj : j.toNat < ns.length := by rw [h.six]; omega
  refine ⟨ns[j.toNat], h.nm _ (List.getElem_mem hj), at_of (j := j.toNat) (by omega) ?_⟩
  rw [List.getElem?_append_left (by rw [List.length_map]; exact hj), List.getElem?_map, List.getElem?_eq_getElem hj]
  rfl
theorem NmX.last (h : NmX nl ns k H) : atI (ns.map V.str ++ [.int k]) 6 = some (.int k) := by
  refine at_of (j := 6) rfl ?_
  rw [List.getElem?_append_right (by rw [List.length_map, h.six]; decide), List.length_map, h.six]
  rfl
end
theorem var_at {l : List Str} {j : Int} (h0 : 0 ≤ j) (h1 : j < l.length) : ∃ x, x ∈ l ∧ atI (l.map V.str) j = some (.str x) := by
  have hj : j.toNat < l.length := by omega
  refine ⟨l[j.toNat], List.getElem_mem hj, at_of (j := j.toNat) (by omega) ?_⟩
  rw [List.getElem?_map, List.getElem?_eq_getElem hj]
  rfl
def spTree (K : PySem.W.Frag) (n : Nat) : Sp := fun vs H Q _ => ∃ (st sl nl sa : Addr) (ns scl : List Str) (k : Int) (d : Nat), vs = [.ref st, .ref nl, .ref sa, .int d] ∧ d < n ∧ d ≤ 2 ∧ StX st sl H ∧ NmX nl ns k H ∧ H sa = some (.lst (scl.map V.str)) ∧ scl.length ≤ 100 ∧
  ∀ (t : Tm) (v : V) (H' : Hp), TOk scl d t → Dp K H' v t.d → Fx st H H' → StX st sl H' → Q v H'
/-- between two parts -/
def TrW (K : PySem.W.Frag) (st sl nl sa l : Addr) (ns scl : List Str) (k : Int) (dv pv : Option V) (f : Str) (m : Nat) (H0 : Hp) (i : Nat) (σ : L2.St) (H : Hp) : Prop :=
  ∃ (ys : List V) (args : List Tm) (x : Option V), σ = [some (.ref st), some (.ref nl), some (.ref sa), dv, pv, some (.ref l), x] ∧ Fx st H0 H ∧ StX st sl H ∧ NmX nl ns k H ∧ H sa = some (.lst (scl.map V.str)) ∧ H l = some (.lst (.str f :: ys)) ∧ DpAll K H ys (Tm.ds args) ∧ args.length = i ∧ ys.length = i ∧ ∀ a ∈ args, TOk scl m a
section
variable {P : Program} {w : World} {K : PySem.W.Frag} {mg : Str → Option Value} {base : Heap} {n : Nat}
abbrev N_L_ftree : List Str := ["_law_state_here", "_law_names_here", "_law_scope", "_law_depth", "_law_pick", "_law_parts", "_law_turn"]
theorem sc_L_ftree : FnScope N_L_ftree ["_law_state_here", "_law_names_here", "_law_scope", "_law_depth"] (defScope s_L_ftree) := ⟨rfl, rfl, rfl, by decide +kernel, rfl, by decide +kernel, by decide +kernel⟩
theorem ok_L_ftree (T : Txt K mg) (F : Fd K d_L_ftree) (O_L_draw : Ok P w K mg base 1 (He.ga K "_law_draw") ["_law_state_here", "_law_many"] spDraw) (O_L_ftree : Ok P w K mg base (2 + n) (He.ga K "_law_ftree") ["_law_state_here", "_law_names_here", "_law_scope", "_law_depth"] (spTree K n)) :
    Ok P w K mg base (2 + n + 1) (He.ga K "_law_ftree") ["_law_state_here", "_law_names_here", "_law_scope", "_law_depth"] (spTree K (n + 1)) := by
  refine ok_mk F sc_L_ftree (fun _ _ _ _ _ _ us hl => match us, hl with | [_, _, _, _], _ => rfl) (fun vs H Q E h => ?_) (fun f cdv A outer s H vs Q E hr h => ?_)
  · obtain ⟨_, _, _, _, _, _, _, _, rfl, _⟩ := h
    rfl
  obtain ⟨st, sl, nl, sa, ns, scl, k, d, rfl, hdn, hd2, hS, hN, hsa, hsl, q⟩ := h
  refine ⟨_, (pss_cons (ps_set (i := 4) sc_L_ftree.nd rfl (Or.inl rfl) (qc T gm_L_draw O_L_draw (hr.mono (by omega)) (pa_cons (pv 0) (pa_cons pe_int pa_nil))))
  (Evl.pss_cut (ps_if (PW.pt (pw_and (qtst op_gt (qcb (qlenQ K) T fm_len bl_len (pa_cons (pv 2) pa_nil)) pe_int) (pw_and1 (qtst op_lt (pv 4) pe_int)))) (pss_one (ps_ret (qil K (pv 2) (qc T gm_L_draw O_L_draw (hr.mono (by omega)) (pa_cons (pv 0) (pa_cons (qcb (qlenQ K) T fm_len bl_len (pa_cons (pv 2) pa_nil)) pa_nil)))))) pss_nil)
  (pss_cons (ps_if (PW.pt (pw_or (qtst op_eq (pv 3) pe_int) (pw_or1 (qtst op_eq (pv 4) pe_int)))) (pss_one (ps_ret (pe_tup (pa_cons (qil K (pv 1) pe_int) pa_nil)))) pss_nil)
  (pss_cons (ps_if (qtst op_eq (pv 4) pe_int) (pss_one (ps_ret (pe_tup (pa_cons (qil K (pv 1) pe_int) (pa_cons (qc T gm_L_ftree O_L_ftree (hr.mono (by omega)) (pa_cons (pv 0) (pa_cons (pv 1) (pa_cons (pv 2) (pa_cons (pe_op op_sub (pv 3) pe_int) pa_nil))))) pa_nil))))) pss_nil)
  (pss_cons (ps_set (i := 5) sc_L_ftree.nd rfl (Or.inl rfl) (pe_lst (pa_cons (qil K (pv 1) pe_int) pa_nil)))
  (pss_cons (ps_for PassesOwn.never rfl (pi_range1 rfl (T.free _ fm_range) (pa_cons (qil K (pv 1) pe_int) pa_nil)) (pg_name (i := 6) sc_L_ftree.nd rfl (Or.inl rfl)) (pss_one (ps_expr (qbm K mt_append (pv 5) (pa_cons (qc T gm_L_ftree O_L_ftree (hr.mono (by omega)) (pa_cons (pv 0) (pa_cons (pv 1) (pa_cons (pv 2) (pa_cons (pe_op op_sub (pe_op op_sub (pv 3) (pe_op op_mul pe_int (qct qintI T fm_int bt_int (pa_cons (qcmp op_gt (pv 3) pe_int) pa_nil)))) (qct qintI T fm_int bt_int (pa_cons (qcmp op_eq (pv 3) pe_int) pa_nil))) pa_nil))))) pa_nil)))))
  (pss_one (ps_ret (qct (qtupOf K) T fm_tuple bt_tuple (pa_cons (pv 5) pa_nil)))))))))), ?_⟩
  walk_at "rd"
  refine ⟨st, sl, 5, rfl, by decide, by decide, hS, fun j1 H1 j10 j11 f1 s1 => ?_⟩
  have hsa1 := hS.strs f1 hsa
  have hN1 := hN.fx hS f1
  walk_at "rd"
  refine rd_cut (fun σ' H' => H' = H1 ∧ σ' = [some (.ref st), some (.ref nl), some (.ref sa), some (.int (d : Nat)), some (.int j1), none, none]) ?_ ?_
  · walk_at "rd"
    by_cases h1 : (0 : Int) < ((scl.map V.str).length : Nat)
    · refine ift (decide_eq_true h1) ?_
      walk_at "rd"
      by_cases h2 : j1 < 2
      · refine ift (decide_eq_true h2) ?_
        walk_at "rd"
        rw [List.length_map] at h1 ⊢
        refine ⟨st, sl, _, rfl, h1, by omega, s1, fun j2 H2 j20 j21 f2 s2 => ?_⟩
        obtain ⟨x, hx, ex⟩ := var_at j20 j21
        refine rd_ixL (sl_of (s1.strs f2 hsa1)) ex ?_
        exact q (.var x) _ H2 (.var hx) (by simp only [Tm.d]; exact .str x) (f1.trans f2) s2
      · refine iff' (decide_eq_false h2) ?_
        exact rd_next ⟨rfl, rfl⟩
    · refine iff' (decide_eq_false h1) ?_
      refine iff' rfl ?_
      exact rd_next ⟨rfl, rfl⟩
  rintro σ' H' ⟨rfl, rfl⟩
  obtain ⟨f0, hf0, ef0⟩ := hN1.at (j := 0) (by decide) (by decide)
  obtain ⟨f1', hf1, ef1⟩ := hN1.at (j := 1) (by decide) (by decide)
  obtain ⟨f2', hf2, ef2⟩ := hN1.at (j := 2) (by decide) (by decide)
  have done : ∀ p H2, Ex H' H2 → H2 p = some (.tup [.str f0]) → Q (.ref p) H2 := fun p H2 x e => q (.app f0 []) _ H2 (.cst hf0) (by simp only [Tm.d, Tm.ds]; exact .tup (st_of e) (.cons (.str _) .nil)) (f1.ex x) (s1.ex x)
  walk_at "rd"
  by_cases h3 : d = 0
  · refine ift (decide_eq_true (by rw [h3] <;> rfl)) ?_
    refine ift rfl ?_
    walk_at "rd"
    refine rd_ixL (sl_of hN1.obj) ef0 ?_
    walk_at "rd"
    refine rd_newT fun p H2 hp x2 e2 => ?_
    exact done p H2 x2 e2
  refine iff' (decide_eq_false fun e => h3 (by have := V.int.inj e; omega)) ?_
  walk_at "rd"
  by_cases h4 : j1 = 2
  · refine ift (decide_eq_true (congrArg V.int h4)) ?_
    walk_at "rd"
    refine rd_ixL (sl_of hN1.obj) ef0 ?_
    walk_at "rd"
    refine rd_newT fun p H2 hp x2 e2 => ?_
    exact done p H2 x2 e2
  refine iff' (decide_eq_false fun e => h4 (V.int.inj e)) ?_
  walk_at "rd"
  by_cases h5 : j1 = 3
  · refine ift (decide_eq_true (congrArg V.int h5)) ?_
    walk_at "rd"
    refine rd_ixL (sl_of hN1.obj) ef1 ?_
    walk_at "rd"
    obtain ⟨e, rfl⟩ : ∃ e, d = e + 1 := ⟨d - 1, by omega⟩
    refine ⟨st, sl, nl, sa, ns, scl, k, e, by rw [show ((e + 1 : Nat) : Int) - 1 = (e : Nat) by omega], by omega, by omega, s1, hN1, hsa1, hsl, fun t v H2 ht dv f2 s2 => ?_⟩
    walk_at "rd"
    refine rd_newT fun p H3 hp x3 e3 => ?_
    exact q (.app f1' [t]) _ H3 (.un hf1 ht) (by simp only [Tm.d, Tm.ds]; exact dp2 e3 (dp_ex x3 _ dv)) ((f1.trans f2).ex x3) (s2.ex x3)
  refine iff' (decide_eq_false fun e => h5 (V.int.inj e)) ?_
  walk_at "rd"
  refine rd_ixL (sl_of hN1.obj) ef2 ?_
  walk_at "rd"
  refine rd_newL fun l H2 hl x2 e2 => ?_
  have hN2 := hN1.ex x2
  have s2 := s1.ex x2
  have hsa2 := x2 _ _ hsa1
  obtain ⟨nl1, nl2⟩ := s1.fresh hl
  have nnl : nl ≠ l := ne_of_none hN1.obj hl
  have nsa : sa ≠ l := ne_of_none hsa1 hl
  have hl0 : H l = none := Fx.free f1 (fun e => hS.isS e) hl nl1
  walk_at "rd"
  refine ⟨.ref nl, rfl, ?_⟩
  refine rd_ixL (sl_of hN2.obj) hN2.last ?_
  obtain ⟨m, hm1, hm2, hk⟩ : ∃ m : Nat, 2 ≤ m ∧ m ≤ 8 ∧ k = (m : Nat) := by
    rcases hN.many with rfl | rfl | rfl
    · exact ⟨2, by omega, by omega, rfl⟩
    · exact ⟨3, by omega, by omega, rfl⟩
    · exact ⟨8, by omega, by omega, rfl⟩
  subst hk
  refine ⟨_, rfl, by omega, by omega, for_range (lo := 0) (n := m) (TrW K st sl nl sa l ns scl m (some (.int (d : Nat))) (some (.int j1)) f2' 0 H) ⟨[], [], none, rfl, f1.ex x2, s2, hN2, hsa2, e2, .nil, rfl, rfl, fun a ha => by cases ha⟩ ?_ ?_⟩
  · rintro i σ H3 hi ⟨ys, args, x, rfl, f3, s3, hN3, hsa3, e3, d3, l3, z3, a3⟩
    walk_at "rd"
    refine rd_bm rfl e3 ?_
    walk_at "rd"
    refine rd_intB ?_
    refine rd_rI (.inr ?_) ?_
    · split <;> omega
    walk_at "rd"
    refine rd_intB ?_
    walk_at "rd"
    refine ⟨st, sl, nl, sa, ns, scl, _, 0, ?_, by omega, by omega, s3, hN3, hsa3, hsl, fun t v H4 ht dv f4 s4 => ?_⟩
    · have hd : d = 1 ∨ d = 2 := by omega
      rcases hd with rfl | rfl <;> rfl
    have e4 : H4 l = some (.lst (.str f2' :: ys)) := f4 _ _ (s3.apart e3 fun b r z => by cases z) e3
    have nt : ∀ xs, H4 l ≠ some (.tup xs) := fun xs e => by rw [e4] at e; cases e
    have nf : ∀ o u, H4 l ≠ some (.frz o u) := fun xs u e => by rw [e4] at e; cases e
    walk_at "rd"
    refine rd_app e4 (by rw [List.length_cons, z3]; exact small1000 (by omega)) ?_
    have d4 := s3.dps f4 (tmds_flat args) d3
    have d5 := dps_snoc dv d4
    have fl := flat_snoc (tmd_flat t) (tmds_flat args)
    rw [← ds_snoc] at d5 fl
    refine ⟨ys ++ [v], args ++ [t], _, rfl, Fx.mut (f3.trans f4) hl0, s4.mut nl1 nl2, (hN3.fx s3 f4).mut nnl, by rw [upd_ne nsa]; exact s3.strs f4 hsa3, upd_same, dps_fx nt nf Fx.set _ fl d5, by rw [List.length_append, l3] <;> rfl, by rw [List.length_append, z3] <;> rfl, fun a ha => ?_⟩
    rcases List.mem_append.mp ha with ha | ha
    · exact a3 a ha
    · rw [List.mem_singleton.mp ha]; exact ht
  · rintro σ H3 ⟨ys, args, x, rfl, f3, s3, hN3, hsa3, e3, d3, l3, z3, a3⟩
    walk_at "rd"
    refine rd_tupL (sl_of e3) fun p H4 hp x4 e4 => ?_
    obtain ⟨e, rfl⟩ : ∃ e, d = e + 1 := ⟨d - 1, by omega⟩
    exact q (.app f2' args) _ H4 (.mu hf2 (by omega) (by omega) a3) (by simp only [Tm.d]; exact .tup (st_of e4) (.cons (.str _) (dps_ex x4 _ d3))) (f3.ex x4) (s3.ex x4)
def spAtom (K : PySem.W.Frag) : Sp := fun vs H Q _ => ∃ (st sl nl sa : Addr) (ns scl : List Str) (k : Int), vs = [.ref st, .ref nl, .ref sa] ∧ StX st sl H ∧ NmX nl ns k H ∧ H sa = some (.lst (scl.map V.str)) ∧ scl.length ≤ 100 ∧
  ∀ (f : Fm) (v : V) (H' : Hp), (∀ m, FOk scl m f) → Dp K H' v f.d → Fx st H H' → StX st sl H' → Q v H'
abbrev N_L_atom : List Str := ["_law_state_here", "_law_names_here", "_law_scope", "_law_left", "_law_pick", "_law_parts", "_law_turn"]
theorem sc_L_atom : FnScope N_L_atom ["_law_state_here", "_law_names_here", "_law_scope"] (defScope s_L_atom) := ⟨rfl, rfl, rfl, by decide +kernel, rfl, by decide +kernel, by decide +kernel⟩
theorem ok_L_atom (T : Txt K mg) (F : Fd K d_L_atom) (O_L_draw : Ok P w K mg base 1 (He.ga K "_law_draw") ["_law_state_here", "_law_many"] spDraw) (O_L_ftree : Ok P w K mg base 5 (He.ga K "_law_ftree") ["_law_state_here", "_law_names_here", "_law_scope", "_law_depth"] (spTree K 3)) :
    Ok P w K mg base 6 (He.ga K "_law_atom") ["_law_state_here", "_law_names_here", "_law_scope"] (spAtom K) := by
  refine ok_mk F sc_L_atom (fun _ _ _ _ _ _ us hl => match us, hl with | [_, _, _], _ => rfl) (fun vs H Q E h => ?_) (fun f cdv A outer s H vs Q E hr h => ?_)
  · obtain ⟨_, _, _, _, _, _, _, rfl, _⟩ := h
    rfl
  obtain ⟨st, sl, nl, sa, ns, scl, k, rfl, hS, hN, hsa, hsl, q⟩ := h
  refine ⟨_, (pss_cons (ps_if (qtst op_eq (qc T gm_L_draw O_L_draw (hr.mono (by omega)) (pa_cons (pv 0) (pa_cons pe_int pa_nil))) pe_int) (pss_cons (ps_set (i := 3) sc_L_atom.nd rfl (Or.inl rfl) (qc T gm_L_ftree O_L_ftree (hr.mono (by omega)) (pa_cons (pv 0) (pa_cons (pv 1) (pa_cons (pv 2) (pa_cons pe_int pa_nil))))))
  (pss_one (ps_ret (pe_tup (pa_cons pe_str (pa_cons (pv 3) (pa_cons (qc T gm_L_ftree O_L_ftree (hr.mono (by omega)) (pa_cons (pv 0) (pa_cons (pv 1) (pa_cons (pv 2) (pa_cons pe_int pa_nil))))) pa_nil))))))) pss_nil)
  (pss_cons (ps_set (i := 4) sc_L_atom.nd rfl (Or.inl rfl) (qc T gm_L_draw O_L_draw (hr.mono (by omega)) (pa_cons (pv 0) (pa_cons pe_int pa_nil))))
  (pss_cons (ps_if (qtst op_eq (pv 4) pe_int) (pss_one (ps_ret (pe_tup (pa_cons pe_str (pa_cons (pe_tup (pa_cons (qil K (pv 1) pe_int) pa_nil)) (pa_cons (pe_tup (pa_cons pe_str pa_nil)) pa_nil)))))) pss_nil)
  (pss_cons (ps_set (i := 5) sc_L_atom.nd rfl (Or.inl rfl) (pe_lst (pa_cons (qil K (pv 1) (pe_op op_add pe_int (pv 4))) pa_nil)))
  (pss_cons (ps_for PassesOwn.never rfl (pi_range1 rfl (T.free _ fm_range) (pa_cons (pv 4) pa_nil)) (pg_name (i := 6) sc_L_atom.nd rfl (Or.inl rfl)) (pss_one (ps_expr (qbm K mt_append (pv 5) (pa_cons (qc T gm_L_ftree O_L_ftree (hr.mono (by omega)) (pa_cons (pv 0) (pa_cons (pv 1) (pa_cons (pv 2) (pa_cons pe_int pa_nil))))) pa_nil)))))
  (pss_one (ps_ret (pe_tup (pa_cons pe_str (pa_cons (qct (qtupOf K) T fm_tuple bt_tuple (pa_cons (pv 5) pa_nil)) (pa_cons (pe_tup (pa_cons pe_str pa_nil)) pa_nil))))))))))), ?_⟩
  walk_at "rd"
  refine ⟨st, sl, 2, rfl, by decide, by decide, hS, fun j1 H1 j10 j11 f1 s1 => ?_⟩
  have hsa1 := hS.strs f1 hsa
  have hN1 := hN.fx hS f1
  walk_at "rd"
  by_cases h1 : j1 = 0
  · refine ift (decide_eq_true (congrArg V.int h1)) ?_
    walk_at "rd"
    refine ⟨st, sl, nl, sa, ns, scl, k, 2, rfl, by decide, by decide, s1, hN1, hsa1, hsl, fun t2 v2 H2 ht2 d2 f2 s2 => ?_⟩
    walk_at "rd"
    refine ⟨st, sl, nl, sa, ns, scl, k, 1, rfl, by decide, by decide, s2, hN1.fx s1 f2, s1.strs f2 hsa1, hsl, fun t3 v3 H3 ht3 d3 f3 s3 => ?_⟩
    walk_at "rd"
    refine rd_newT fun p H4 hp x4 e4 => ?_
    exact q (.eq t2 t3) _ H4 (fun m => .eq ht2 ht3) (dp3 e4 (dp_ex x4 _ (s2.dp f3 (tmd_flat t2) d2)) (dp_ex x4 _ d3)) (((f1.trans f2).trans f3).ex x4) (s3.ex x4)
  refine iff' (decide_eq_false fun e => h1 (V.int.inj e)) ?_
  walk_at "rd"
  refine ⟨st, sl, 3, rfl, by decide, by decide, s1, fun j2 H2 j20 j21 f2 s2 => ?_⟩
  have hsa2 := s1.strs f2 hsa1
  have hN2 := hN1.fx s1 f2
  walk_at "rd"
  by_cases h2 : j2 = 0
  · refine ift (decide_eq_true (congrArg V.int h2)) ?_
    walk_at "rd"
    obtain ⟨f0, hf0, ef0⟩ := hN2.at (j := 3) (by decide) (by decide)
    refine rd_ixL (sl_of hN2.obj) ef0 ?_
    walk_at "rd"
    refine rd_newT fun p H3 hp x3 e3 => ?_
    walk_at "rd"
    refine rd_newT fun p4 H4 hp4 x4 e4 => ?_
    walk_at "rd"
    refine rd_newT fun p5 H5 hp5 x5 e5 => ?_
    refine q (.pr (.app f0 [])) _ H5 (fun m => .pr0 hf0) (dp3 e5 ?_ (.tup (st_of (x5 _ _ e4)) (.cons (.str _) .nil))) (((f1.trans f2).ex x3).ex (x4.trans x5)) ((s2.ex x3).ex (x4.trans x5))
    simp only [Tm.d, Tm.ds]
    exact .tup (st_of (x5 _ _ (x4 _ _ e3))) (.cons (.str _) .nil)
  refine iff' (decide_eq_false fun e => h2 (V.int.inj e)) ?_
  obtain ⟨f0, hf0, ef0⟩ := hN2.at (j := 3 + j2) (by omega) (by omega)
  walk_at "rd"
  refine rd_ixL (sl_of hN2.obj) ef0 ?_
  walk_at "rd"
  refine rd_newL fun l H3 hl x3 e3 => ?_
  have hN3 := hN2.ex x3
  have s3 := s2.ex x3
  have hsa3 := x3 _ _ hsa2
  obtain ⟨nl1, nl2⟩ := s2.fresh hl
  have nnl : nl ≠ l := ne_of_none hN2.obj hl
  have nsa : sa ≠ l := ne_of_none hsa2 hl
  have hl0 : H l = none := Fx.free (f1.trans f2) (fun e => hS.isS e) hl nl1
  obtain ⟨m, hm1, hm2, hk⟩ : ∃ m : Nat, 1 ≤ m ∧ m ≤ 2 ∧ j2 = (m : Nat) := ⟨j2.toNat, by omega, by omega, by omega⟩
  subst hk
  walk_at "rd"
  refine ⟨_, rfl, _, rfl, by omega, by omega, for_range (lo := 0) (n := m) (TrW K st sl nl sa l ns scl k none (some (.int (m : Nat))) f0 1 H) ⟨[], [], none, rfl, (f1.trans f2).ex x3, s3, hN3, hsa3, e3, .nil, rfl, rfl, fun a ha => by cases ha⟩ ?_ ?_⟩
  · rintro i σ H3 hi ⟨ys, args, x, rfl, f3, s3, hN3, hsa3, e3, d3, l3, z3, a3⟩
    walk_at "rd"
    refine rd_bm rfl e3 ?_
    walk_at "rd"
    refine ⟨st, sl, nl, sa, ns, scl, _, 1, rfl, by omega, by omega, s3, hN3, hsa3, hsl, fun t v H4 ht dv f4 s4 => ?_⟩
    have e4 : H4 l = some (.lst (.str f0 :: ys)) := f4 _ _ (s3.apart e3 fun b r z => by cases z) e3
    have nt : ∀ xs, H4 l ≠ some (.tup xs) := fun xs e => by rw [e4] at e; cases e
    have nf : ∀ o u, H4 l ≠ some (.frz o u) := fun xs u e => by rw [e4] at e; cases e
    walk_at "rd"
    refine rd_app e4 (by rw [List.length_cons, z3]; exact small1000 (by omega)) ?_
    have d4 := s3.dps f4 (tmds_flat args) d3
    have d5 := dps_snoc dv d4
    have fl := flat_snoc (tmd_flat t) (tmds_flat args)
    rw [← ds_snoc] at d5 fl
    refine ⟨ys ++ [v], args ++ [t], _, rfl, Fx.mut (f3.trans f4) hl0, s4.mut nl1 nl2, (hN3.fx s3 f4).mut nnl, by rw [upd_ne nsa]; exact s3.strs f4 hsa3, upd_same, dps_fx nt nf Fx.set _ fl d5, by rw [List.length_append, l3] <;> rfl, by rw [List.length_append, z3] <;> rfl, fun a ha => ?_⟩
    rcases List.mem_append.mp ha with ha | ha
    · exact a3 a ha
    · rw [List.mem_singleton.mp ha]; exact ht
  · rintro σ H3 ⟨ys, args, x, rfl, f3, s3, hN3, hsa3, e3, d3, l3, z3, a3⟩
    walk_at "rd"
    refine rd_tupL (sl_of e3) fun p H4 hp x4 e4 => ?_
    walk_at "rd"
    refine rd_newT fun p5 H5 hp5 x5 e5 => ?_
    walk_at "rd"
    refine rd_newT fun p6 H6 hp6 x6 e6 => ?_
    refine q (.pr (.app f0 args)) _ H6 (fun m' => ?_) (dp3 e6 ?_ (.tup (st_of (x6 _ _ e5)) (.cons (.str _) .nil))) (f3.ex (x4.trans (x5.trans x6))) (s3.ex (x4.trans (x5.trans x6)))
    · match args, l3, a3 with
      | [a], _, a3 => exact .pr1 hf0 (a3 a (.head _))
      | [a, b], _, a3 => exact .pr2 hf0 (a3 a (.head _)) (a3 b (.tail _ (.head _)))
      | [], l3, _ => exact absurd l3 (by simp only [List.length_nil]; omega)
      | _ :: _ :: _ :: _, l3, _ => simp only [List.length_cons] at l3; omega
    · simp only [Tm.d]
      exact .tup (st_of (x6 _ _ (x5 _ _ e4))) (.cons (.str _) (dps_ex ((x4.trans x5).trans x6) _ d3))
def spForm (K : PySem.W.Frag) (n : Nat) : Sp := fun vs H Q _ => ∃ (st sl nl sa : Addr) (ns scl : List Str) (k : Int) (d : Nat), vs = [.ref st, .ref nl, .ref sa, .int d] ∧ d < n ∧ d ≤ 4 ∧ StX st sl H ∧ NmX nl ns k H ∧ H sa = some (.lst (scl.map V.str)) ∧ scl.length + d ≤ 100 ∧
  ∀ (f : Fm) (v : V) (H' : Hp), FOk scl d f → Dp K H' v f.d → Fx st H H' → StX st sl H' → Q v H'
theorem two_at {a b : Str} {j : Int} (h0 : 0 ≤ j) (h1 : j < 2) : ∃ x, (x = a ∨ x = b) ∧ atI [V.str a, .str b] j = some (.str x) := by
  have : j = 0 ∨ j = 1 := by omega
  rcases this with rfl | rfl
  · exact ⟨a, .inl rfl, rfl⟩
  · exact ⟨b, .inr rfl, rfl⟩
theorem four_at {a b c d : Str} {j : Int} (h0 : 0 ≤ j) (h1 : j < 4) : ∃ x, (x = a ∨ x = b ∨ x = c ∨ x = d) ∧ atI [V.str a, .str b, .str c, .str d] j = some (.str x) := by
  have : j = 0 ∨ j = 1 ∨ j = 2 ∨ j = 3 := by omega
  rcases this with rfl | rfl | rfl | rfl
  · exact ⟨a, .inl rfl, rfl⟩
  · exact ⟨b, .inr (.inl rfl), rfl⟩
  · exact ⟨c, .inr (.inr (.inl rfl)), rfl⟩
  · exact ⟨d, .inr (.inr (.inr rfl)), rfl⟩
abbrev N_L_formula : List Str := ["_law_state_here", "_law_names_here", "_law_scope", "_law_depth", "_law_pick", "_law_name", "_law_kind", "_law_left"]
theorem sc_L_formula : FnScope N_L_formula ["_law_state_here", "_law_names_here", "_law_scope", "_law_depth"] (defScope s_L_formula) := ⟨rfl, rfl, rfl, by decide +kernel, rfl, by decide +kernel, by decide +kernel⟩
theorem ok_L_formula (T : Txt K mg) (F : Fd K d_L_formula) (O_L_draw : Ok P w K mg base 1 (He.ga K "_law_draw") ["_law_state_here", "_law_many"] spDraw) (O_L_atom : Ok P w K mg base 6 (He.ga K "_law_atom") ["_law_state_here", "_law_names_here", "_law_scope"] (spAtom K))
    (O_L_formula : Ok P w K mg base (6 + n) (He.ga K "_law_formula") ["_law_state_here", "_law_names_here", "_law_scope", "_law_depth"] (spForm K n)) : Ok P w K mg base (6 + n + 1) (He.ga K "_law_formula") ["_law_state_here", "_law_names_here", "_law_scope", "_law_depth"] (spForm K (n + 1)) := by
  refine ok_mk F sc_L_formula (fun _ _ _ _ _ _ us hl => match us, hl with | [_, _, _, _], _ => rfl) (fun vs H Q E h => ?_) (fun f cdv A outer s H vs Q E hr h => ?_)
  · obtain ⟨_, _, _, _, _, _, _, _, rfl, _⟩ := h
    rfl
  obtain ⟨st, sl, nl, sa, ns, scl, k, d, rfl, hdn, hd4, hS, hN, hsa, hsl, q⟩ := h
  refine ⟨_, (pss_cons (ps_set (i := 4) sc_L_formula.nd rfl (Or.inl rfl) (qc T gm_L_draw O_L_draw (hr.mono (by omega)) (pa_cons (pv 0) (pa_cons pe_int pa_nil))))
  (Evl.pss_cut (ps_if (PW.pt (pw_or (qtst op_eq (pv 3) pe_int) (pw_or1 (qtst op_eq (pv 4) pe_int)))) (pss_cons (ps_if (qtst op_eq (qc T gm_L_draw O_L_draw (hr.mono (by omega)) (pa_cons (pv 0) (pa_cons pe_int pa_nil))) pe_int) (pss_one (ps_ret (pe_tup (pa_cons (qil K (pe_lst (pa_cons pe_str (pa_cons pe_str pa_nil))) (qc T gm_L_draw O_L_draw (hr.mono (by omega)) (pa_cons (pv 0) (pa_cons pe_int pa_nil)))) pa_nil)))) pss_nil)
  (pss_one (ps_ret (qc T gm_L_atom O_L_atom (hr.mono (by omega)) (pa_cons (pv 0) (pa_cons (pv 1) (pa_cons (pv 2) pa_nil))))))) pss_nil)
  (pss_cons (ps_if (qtst op_lt (pv 4) pe_int) (pss_one (ps_ret (pe_tup (pa_cons pe_str (pa_cons (qc T gm_L_formula O_L_formula (hr.mono (by omega)) (pa_cons (pv 0) (pa_cons (pv 1) (pa_cons (pv 2) (pa_cons (pe_op op_sub (pv 3) pe_int) pa_nil))))) pa_nil))))) pss_nil)
  (pss_cons (ps_if (qtst op_lt (pv 4) pe_int) (pss_cons (ps_set (i := 5) sc_L_formula.nd rfl (Or.inl rfl) (qil K (pe_lst (pa_cons pe_str (pa_cons pe_str (pa_cons pe_str (pa_cons pe_str pa_nil))))) (qc T gm_L_draw O_L_draw (hr.mono (by omega)) (pa_cons (pv 0) (pa_cons pe_int pa_nil)))))
  (pss_cons (ps_set (i := 6) sc_L_formula.nd rfl (Or.inl rfl) (qil K (pe_lst (pa_cons pe_str (pa_cons pe_str pa_nil))) (qc T gm_L_draw O_L_draw (hr.mono (by omega)) (pa_cons (pv 0) (pa_cons pe_int pa_nil)))))
  (pss_one (ps_ret (pe_tup (pa_cons (pv 6) (pa_cons (pv 5) (pa_cons (qc T gm_L_formula O_L_formula (hr.mono (by omega)) (pa_cons (pv 0) (pa_cons (pv 1) (pa_cons (pe_op op_cat (pv 2) (pe_lst (pa_cons (pv 5) pa_nil))) (pa_cons (pe_op op_sub (pv 3) pe_int) pa_nil))))) pa_nil)))))))) pss_nil)
  (pss_cons (ps_set (i := 6) sc_L_formula.nd rfl (Or.inl rfl) (qil K (pe_lst (pa_cons pe_str (pa_cons pe_str (pa_cons pe_str (pa_cons pe_str pa_nil))))) (pe_op op_sub (pv 4) pe_int)))
  (pss_cons (ps_set (i := 7) sc_L_formula.nd rfl (Or.inl rfl) (qc T gm_L_formula O_L_formula (hr.mono (by omega)) (pa_cons (pv 0) (pa_cons (pv 1) (pa_cons (pv 2) (pa_cons (pe_op op_sub (pv 3) pe_int) pa_nil))))))
  (pss_one (ps_ret (pe_tup (pa_cons (pv 6) (pa_cons (pv 7) (pa_cons (qc T gm_L_formula O_L_formula (hr.mono (by omega)) (pa_cons (pv 0) (pa_cons (pv 1) (pa_cons (pv 2) (pa_cons (pe_op op_sub (pv 3) pe_int) pa_nil))))) pa_nil)))))))))))), ?_⟩
  walk_at "rd"
  refine ⟨st, sl, 10, rfl, by decide, by decide, hS, fun j1 H1 j10 j11 f1 s1 => ?_⟩
  have hsa1 := hS.strs f1 hsa
  have hN1 := hN.fx hS f1
  walk_at "rd"
  refine rd_cut (fun σ' H' => H' = H1 ∧ (∃ e, d = e + 1) ∧ j1 ≠ 0 ∧ σ' = [some (.ref st), some (.ref nl), some (.ref sa), some (.int (d : Nat)), some (.int j1), none, none, none]) ?_ ?_
  · have atom : spDraw [.ref st, .int 6] H1 (fun x H' => ∃ kk, decide (x = V.int 0) = kk ∧ True) E0 → True := fun _ => trivial
    clear atom
    have go : ∀ {D : Ends}, D.rt = Q → tSeq (tIfS (tTest (tOp rEq (tCl spDraw (tCons (tVar 0) (tCons (tC (.int 6)) tNil))) (tC (.int 0)))) (tRet (tTup (tCons (tOp (rIxL K) (tLst (tCons (tC (.str "true")) (tCons (tC (.str "false")) tNil))) (tCl spDraw (tCons (tVar 0) (tCons (tC (.int 2)) tNil)))) tNil))) tNext) (tRet (tCl (spAtom K) (tCons (tVar 0) (tCons (tVar 1) (tCons (tVar 2) tNil))))) D [some (.ref st), some (.ref nl), some (.ref sa), some (.int (d : Nat)), some (.int j1), none, none, none] H1 := fun {D} hD => by
      walk_at "rd"
      refine ⟨st, sl, 6, rfl, by decide, by decide, s1, fun j2 H2 j20 j21 f2 s2 => ?_⟩
      have hsa2 := s1.strs f2 hsa1
      have hN2 := hN1.fx s1 f2
      walk_at "rd"
      by_cases h2 : j2 = 0
      · refine ift (decide_eq_true (congrArg V.int h2)) ?_
        walk_at "rd"
        refine rd_newL fun b H3 hb x3 e3 => ?_
        have s3 := s2.ex x3
        walk_at "rd"
        refine ⟨st, sl, 2, rfl, by decide, by decide, s3, fun j4 H4 j40 j41 f4 s4 => ?_⟩
        have e4 := f4 _ _ (s3.apart e3 (fun b r z => by cases z)) e3
        obtain ⟨x, hx, ex⟩ := two_at j40 j41
        refine rd_ixL (sl_of e4) ex ?_
        walk_at "rd"
        refine rd_newT fun p H5 hp x5 e5 => ?_
        rw [hD]
        have fin : ∀ b, x = tw b → Q (.ref p) H5 := fun b e => q (.tt b) _ H5 .tt (by subst e; exact .tup (st_of e5) (.cons (.str _) .nil)) ((((f1.trans f2).ex x3).trans f4).ex x5) (s4.ex x5)
        rcases hx with hx | hx
        · exact fin true hx
        · exact fin false hx
      · refine iff' (decide_eq_false fun e => h2 (V.int.inj e)) ?_
        walk_at "rd"
        rw [hD]
        exact ⟨st, sl, nl, sa, ns, scl, k, rfl, s2, hN2, hsa2, by omega, fun f v H' hf dv f3 s3 => q f v H' (hf _) dv ((f1.trans f2).trans f3) s3⟩
    walk_at "rd"
    by_cases h1 : d = 0
    · refine ift (decide_eq_true (by rw [h1] <;> rfl)) ?_
      refine ift rfl ?_
      exact go rfl
    refine iff' (decide_eq_false fun e => h1 (by have := V.int.inj e; omega)) ?_
    walk_at "rd"
    by_cases h2 : j1 = 0
    · refine ift (decide_eq_true (congrArg V.int h2)) ?_
      exact go rfl
    refine iff' (decide_eq_false fun e => h2 (V.int.inj e)) ?_
    exact rd_next ⟨rfl, ⟨d - 1, by omega⟩, h2, rfl⟩
  rintro σ' H' ⟨rfl, ⟨e, rfl⟩, h0, rfl⟩
  have ed : ((e + 1 : Nat) : Int) - 1 = (e : Nat) := by omega
  walk_at "rd"
  by_cases h3 : j1 < 3
  · refine ift (decide_eq_true h3) ?_
    walk_at "rd"
    refine ⟨st, sl, nl, sa, ns, scl, k, e, by rw [ed], by omega, by omega, s1, hN1, hsa1, by omega, fun f v H2 hf dv f2 s2 => ?_⟩
    walk_at "rd"
    refine rd_newT fun p H3 hp x3 e3 => ?_
    exact q (.neg f) _ H3 (.neg hf) (dp2 e3 (dp_ex x3 _ dv)) ((f1.trans f2).ex x3) (s2.ex x3)
  refine iff' (decide_eq_false h3) ?_
  walk_at "rd"
  by_cases h6 : j1 < 6
  · refine ift (decide_eq_true h6) ?_
    walk_at "rd"
    refine rd_newL fun b H2 hb x2 e2 => ?_
    have s2 := s1.ex x2
    walk_at "rd"
    refine ⟨st, sl, 4, rfl, by decide, by decide, s2, fun j3 H3 j30 j31 f3 s3 => ?_⟩
    have e3 := f3 _ _ (s2.apart e2 (fun b r z => by cases z)) e2
    obtain ⟨x, hx, ex⟩ := four_at j30 j31
    refine rd_ixL (sl_of e3) ex ?_
    walk_at "rd"
    refine rd_newL fun b4 H4 hb4 x4 e4 => ?_
    have s4 := s3.ex x4
    walk_at "rd"
    refine ⟨st, sl, 2, rfl, by decide, by decide, s4, fun j5 H5 j50 j51 f5 s5 => ?_⟩
    have e5 := f5 _ _ (s4.apart e4 (fun b r z => by cases z)) e4
    obtain ⟨y, hy, ey⟩ := two_at j50 j51
    refine rd_ixL (sl_of e5) ey ?_
    have hsa5 : H5 sa = some (.lst (scl.map V.str)) := s4.strs f5 (x4 _ _ (s2.strs f3 (x2 _ _ hsa1)))
    walk_at "rd"
    refine rd_newL fun b6 H6 hb6 x6 e6 => ?_
    walk_at "rd"
    refine rd_cat (x6 _ _ hsa5) e6 (by rw [List.length_map]; exact Nat.le_of_lt (small1000 (show scl.length + 1 ≤ 1000 by omega))) fun sb H7 hsb x7 e7 => ?_
    have e7' : H7 sb = some (.lst ((scl ++ [x]).map V.str)) := by rw [e7, List.map_append] <;> rfl
    have hN5 : NmX nl ns k H5 := ((((hN1.ex x2).fx s2 f3).ex x4).fx s4 f5)
    have s7 := (s5.ex x6).ex x7
    walk_at "rd"
    refine ⟨st, sl, nl, sb, ns, scl ++ [x], k, e, by rw [ed], by omega, by omega, s7, (hN5.ex x6).ex x7, e7', by rw [List.length_append]; show scl.length + 1 + e ≤ 100; omega, fun f v H8 hf dv f8 s8 => ?_⟩
    walk_at "rd"
    refine rd_newT fun p H9 hp x9 e9 => ?_
    have vx : VarOk x := by
      unfold VarOk
      rcases hx with rfl | rfl | rfl | rfl <;> simp
    have fin : ∀ b, y = qw b → Q (.ref p) H9 := fun b z => q (.qu b x f) _ H9 (.qu vx hf) (by subst z; exact dp3 e9 (.str _) (dp_ex x9 _ dv)) (((((((f1.ex x2).trans f3).ex x4).trans f5).ex (x6.trans x7)).trans f8).ex x9) (s8.ex x9)
    rcases hy with hy | hy
    · exact fin true hy
    · exact fin false hy
  refine iff' (decide_eq_false h6) ?_
  walk_at "rd"
  refine rd_newL fun b H2 hb x2 e2 => ?_
  have s2 := s1.ex x2
  obtain ⟨y, hy, ey⟩ := four_at (a := "and") (b := "or") (c := "implies") (d := "iff") (j := j1 - 6) (by omega) (by omega)
  walk_at "rd"
  refine rd_ixL (sl_of e2) ey ?_
  walk_at "rd"
  refine ⟨st, sl, nl, sa, ns, scl, k, e, by rw [ed], by omega, by omega, s2, hN1.ex x2, x2 _ _ hsa1, by omega, fun f v H3 hf dv f3 s3 => ?_⟩
  walk_at "rd"
  refine ⟨st, sl, nl, sa, ns, scl, k, e, by rw [ed], by omega, by omega, s3, (hN1.ex x2).fx s2 f3, s2.strs f3 (x2 _ _ hsa1), by omega, fun g u H4 hg du f4 s4 => ?_⟩
  walk_at "rd"
  refine rd_newT fun p H5 hp x5 e5 => ?_
  have fin : ∀ b : Bk, y = b.nm → Q (.ref p) H5 := fun b z => q (.bin b f g) _ H5 (.bin hf hg) (by subst z; exact dp3 e5 (dp_ex x5 _ (s3.dp f4 (fmd_flat f) dv)) (dp_ex x5 _ du)) ((((f1.ex x2).trans f3).trans f4).ex x5) (s4.ex x5)
  rcases hy with hy | hy | hy | hy
  · exact fin .and hy
  · exact fin .or hy
  · exact fin .imp hy
  · exact fin .iff hy
end
end Ele
end
section
set_option Elab.async false
set_option linter.all false
set_option maxRecDepth 100000
set_option maxHeartbeats 2000000
local macro_rules | `(tactic| walk_at "rd") => `(tactic| repeat (first
  | with_reducible refine' Ele.rd_seq ?_
  | with_reducible refine' Ele.rd_asg ?_
  | with_reducible refine' Ele.rd_name ?_
  | with_reducible refine' Ele.rd_op ?_
  | ((with_reducible refine' Ele.rd_var ?hv ?_); (case hv => rfl))
  | with_reducible refine' Ele.rd_c ?_
  | with_reducible refine' Ele.rd_rI0 ?_
  | ((with_reducible refine' Ele.rd_eq ?hs ?_); (case hs => rfl))
  | ((with_reducible refine' Ele.rd_ne ?hs ?_); (case hs => rfl))
  | with_reducible refine' Ele.rd_test ?_
  | with_reducible refine' Ele.rd_k ?_
  | with_reducible refine' Ele.rd_if ?_
  | with_reducible refine' Ele.rd_drop ?_
  | with_reducible refine' Ele.rd_ret ?_
  | with_reducible refine' Ele.rd_retN ?_
  | with_reducible refine' Ele.rd_next ?_
  | with_reducible refine' Ele.rd_brk ?_
  | ((with_reducible refine' Ele.rd_aug ?hs ?_); (case hs => rfl))
  | with_reducible refine' Ele.rd_ipI ?_
  | with_reducible refine' Ele.rd_cons ?_
  | with_reducible refine' Ele.rd_nil ?_
  | with_reducible refine' Ele.rd_cl ?_
  | with_reducible refine' Ele.rd_mk ?_
  | with_reducible refine' Ele.rd_cb ?_
  | with_reducible refine' Ele.rd_tup ?_
  | with_reducible refine' Ele.rd_lst ?_
  | with_reducible refine' Ele.rd_not ?_
  | with_reducible refine' Ele.rd_notV ?_
  | with_reducible refine' Ele.rd_and ?_
  | with_reducible refine' Ele.rd_or ?_
  | with_reducible refine' Ele.rd_andV ?_
  | with_reducible refine' Ele.rd_orV ?_
  | with_reducible refine' Ele.rd_add ?_
  | with_reducible refine' Ele.rd_max ?_
  | with_reducible refine' Ele.rd_int ?_
  | with_reducible refine' Ele.rd_tB ?_
  | with_reducible refine' Ele.rd_un ?_
  | ((with_reducible refine' Ele.rd_lenL ?h ?_); (case h => exact Ele.sl_of (by assumption)))
  | ((with_reducible refine' Ele.rd_lenT ?h ?_); (case h => exact Ele.st_of (by assumption)))
  | ((with_reducible refine' Ele.rd_lenS ?h ?_); (case h => assumption))
  | with_reducible refine' Ele.rd_sl ?_
  | with_reducible refine' Ele.rd_part ?_
  | with_reducible refine' Ele.rd_pi ?_
  | ((with_reducible refine' Ele.rd_slS ?h ?_); (case h => assumption))
  | with_reducible refine' Ele.rd_inC ?_
  | ((with_reducible refine' Ele.rd_ixL ?h ?e ?_); (case h => exact Ele.sl_of (by assumption)); (case e => rfl))
  | with_reducible refine' Ele.rd_forL ?_
  | with_reducible refine' Ele.rd_forS ?_
  | with_reducible refine' Ele.rd_fld ?_
  | with_reducible refine' Ele.rd_mt0 ?_
  | ((with_reducible refine' Ele.rd_row ?hT ?hR ?_); (case hT => assumption); (case hR => assumption))
  | ((with_reducible refine' Ele.rd_at ?hT ?hR ?_); (case hT => assumption); (case hR => assumption))
  | ((with_reducible refine' Ele.rd_opc ?hT ?hR ?_); (case hT => assumption); (case hR => assumption))
  | ((with_reducible refine' Ele.rd_scp ?hT ?hR ?_); (case hT => assumption); (case hR => assumption))
  | ((with_reducible refine' Ele.rd_mt ?hR ?hm ?_); (case hR => assumption); (case hm => decide +kernel))
  | ((with_reducible refine' Ele.rd_word ?hR ?_); (case hR => assumption))
  | ((with_reducible refine' Ele.rd_kind ?hR ?_); (case hR => assumption))
  | ((with_reducible refine' Ele.rd_gtup2 ?h ?hn ?_); (case h => assumption); (case hn => rfl))
  | with_reducible refine' Ele.rd_gcons ?_
  | with_reducible refine' Ele.rd_gnil ?_
  | with_reducible refine' Ele.rd_gsub ?_
  | with_reducible refine' Ele.rd_fldset ?_
  ))
namespace Ele
open PySem PySem.Spec PyProof.Rows L2
theorem big20 {x : Nat} (h : x ≤ 200000) : x < sizeLine := Nat.lt_of_le_of_lt h (by decide)
/-! ### terms as words -/
inductive TD : Nat → Tm → Prop
  | var {n x} : TD (n + 1) (.var x)
  | app {n f args} : args.length ≤ 8 → (∀ a ∈ args, TD n a) → TD (n + 1) (.app f args)
theorem TD.mono {n : Nat} {t : Tm} (h : TD n t) : ∀ {m}, n ≤ m → TD m t := by
  induction h with
  | var =>
    intro m hm
    obtain ⟨k, rfl⟩ : ∃ k, m = k + 1 := ⟨m - 1, by omega⟩
    exact .var
  | app h8 _ ih =>
    intro m hm
    obtain ⟨k, rfl⟩ : ∃ k, m = k + 1 := ⟨m - 1, by omega⟩
    exact .app h8 fun a ha => ih a ha (by omega)
theorem TOk.td {sc : List Str} {n : Nat} {t : Tm} (h : TOk sc n t) : TD (n + 1) t := by
  induction h with
  | var _ => exact .var
  | cst _ => exact .app (by decide) fun a ha => by cases ha
  | un _ _ ih => exact .app (Nat.le_of_ble_eq_true rfl) fun a ha => by rw [List.mem_singleton.mp ha]; exact ih
  | mu _ _ h8 _ ih => exact .app h8 fun a ha => (ih a ha).mono (by omega)
def lw : List Tm → List Str
  | [] => []
  | a :: r => "(" :: (a.w ++ Tm.ws r)
theorem ws_snoc {b : Tm} : ∀ r : List Tm, Tm.ws (r ++ [b]) = Tm.ws r ++ ("," : Str) :: b.w
  | [] => by simp [Tm.ws]
  | a :: r => by simp [Tm.ws, ws_snoc r]
theorem lw_snoc {b : Tm} (r : List Tm) : lw (r ++ [b]) = lw r ++ (if r.length = 0 then ("(" : Str) else ",") :: b.w := by
  cases r with
  | nil => simp [lw, Tm.ws]
  | cons a r => simp [lw, ws_snoc]
theorem w_app {f : Str} (args : List Tm) : (Tm.app f args).w = f :: (lw args ++ if args.length = 0 then [] else [(")" : Str)]) := by
  cases args with
  | nil => simp [Tm.w, lw]
  | cons a r => simp [Tm.w, lw]
theorem ws_le {B : Nat} : ∀ r : List Tm, (∀ a ∈ r, a.w.length ≤ B) → (Tm.ws r).length ≤ r.length * (B + 1)
  | [], _ => by simp [Tm.ws]
  | a :: r, h => by
    have ih := ws_le r fun b hb => h b (List.mem_cons_of_mem _ hb)
    have h1 := h a List.mem_cons_self
    simp only [Tm.ws, List.length_cons, List.length_append, Nat.add_mul]
    omega
theorem lw_le {B : Nat} (r : List Tm) (h : ∀ a ∈ r, a.w.length ≤ B) : (lw r).length ≤ r.length * (B + 1) := by
  cases r with
  | nil => simp [lw]
  | cons a r =>
    have ih := ws_le r fun b hb => h b (List.mem_cons_of_mem _ hb)
    have h1 := h a List.mem_cons_self
    simp only [lw, List.length_cons, List.length_append, Nat.add_mul]
    omega
theorem TD.len {n : Nat} {t : Tm} (h : TD n t) : t.w.length ≤ 20 ^ n := by
  induction h with
  | @var n x =>
    have : 0 < 20 ^ n := Nat.pow_pos (by decide)
    simp only [Tm.w, List.length_singleton, Nat.pow_succ]
    omega
  | @app n f args h8 _ ih =>
    have h1 := lw_le args ih
    have hp : 0 < 20 ^ n := Nat.pow_pos (by decide)
    have h2 : args.length * (20 ^ n + 1) ≤ 8 * (20 ^ n + 1) := Nat.mul_le_mul_right _ h8
    rw [w_app, List.length_cons, List.length_append, Nat.pow_succ]
    have h3 : (if args.length = 0 then [] else [(")" : Str)]).length ≤ 1 := by split <;> simp
    omega
theorem lw_take_le {n : Nat} {args : List Tm} (h8 : args.length ≤ 8) (h : ∀ a ∈ args, TD n a) (i : Nat) : (lw (args.take i)).length ≤ 8 * (20 ^ n + 1) := by
  have h1 := lw_le (args.take i) fun a ha => (h a (List.mem_of_mem_take ha)).len
  have h2 : (args.take i).length ≤ 8 := by rw [List.length_take]; omega
  exact Nat.le_trans h1 (Nat.mul_le_mul_right _ h2)
section
variable {K : PySem.W.Frag} {H H' : Hp} {v : V} {ds : List PyData} {a : Addr}
theorem dp_tup (h : Dp K H v (.tuple ds)) : ∃ a xs, v = .ref a ∧ SqT K H a xs ∧ DpAll K H xs ds := by
  cases h with
  | tup a b => exact ⟨_, _, rfl, a, b⟩
theorem dp_str {x : Str} (h : Dp K H v (.str x)) : v = .str x := by
  cases h
  rfl
theorem dps_cons {d : PyData} {xs : List V} (h : DpAll K H xs (d :: ds)) : ∃ v ys, xs = v :: ys ∧ Dp K H v d ∧ DpAll K H ys ds := by
  cases h with
  | cons a b => exact ⟨_, _, rfl, a, b⟩
theorem dps_nil {xs : List V} (h : DpAll K H xs []) : xs = [] := by
  cases h
  rfl
theorem dps_at : ∀ {args : List Tm} {ys : List V} {i : Nat} {b : Tm}, DpAll K H ys (Tm.ds args) → args[i]? = some b → ∃ v, ys[i]? = some v ∧ Dp K H v b.d
  | [], _, _, _, _, h => by cases h
  | c :: args, ys, i, b, h, hb => by
    obtain ⟨v, zs, rfl, h1, h2⟩ := dps_cons (show DpAll K H ys (c.d :: Tm.ds args) from h)
    cases i with
    | zero =>
      cases hb
      exact ⟨v, rfl, h1⟩
    | succ i =>
      obtain ⟨u, h3, h4⟩ := dps_at (args := args) h2 (show args[i]? = some b from hb)
      exact ⟨u, h3, h4⟩
theorem dps_len : ∀ {args : List Tm} {ys : List V}, DpAll K H ys (Tm.ds args) → ys.length = args.length
  | [], ys, h => by rw [dps_nil (show DpAll K H ys [] from h)] <;> rfl
  | c :: args, ys, h => by
    obtain ⟨v, zs, rfl, h1, h2⟩ := dps_cons (show DpAll K H ys (c.d :: Tm.ds args) from h)
    rw [List.length_cons, List.length_cons, dps_len h2]
theorem ix0 {x : V} {ys : List V} : atI (x :: ys) 0 = some x := at_of (j := 0) (by decide) rfl
theorem ix1 {x y : V} {ys : List V} : atI (x :: y :: ys) 1 = some y := at_of (j := 1) (by decide) rfl
theorem ix2 {x y z : V} {ys : List V} : atI (x :: y :: z :: ys) 2 = some z := at_of (j := 2) (by decide) rfl
theorem ty_tup {xs : List V} (h : SqT K H a xs) : TyX K H (.ref a) (.type "tuple") := by
  rcases h with (h | ⟨o, h⟩) | ⟨o, _, _, h, c, _⟩
  · exact .base (.tup h)
  · exact .fTuple h
  · exact .kTuple h c
end
def spTW (K : PySem.W.Frag) (n : Nat) : Sp := fun vs H Q _ => ∃ (v : V) (t : Tm), vs = [v] ∧ n ≤ 3 ∧ TD n t ∧ Dp K H v t.d ∧ ∀ (l : Addr) (H' : Hp), Ex H H' → H' l = some (.lst (t.w.map V.str)) → Q (.ref l) H'
def TwW (H0 : Hp) (a : Addr) (f : Str) (args : List Tm) (i : Nat) (σ : L2.St) (H : Hp) : Prop :=
  ∃ (l : Addr) (x : Option V), σ = [some (.ref a), some (.ref l), x] ∧ Ex H0 H ∧ H0 l = none ∧ H l = some (.lst ((f :: lw (args.take i)).map V.str))
theorem qbi {X : Cx} {o e : Expr} {to : TE} {t : TA} {apos p : Pos} (K : PySem.W.Frag) (ho : PE X o to) (ha : PA X [e] t)
    (hbase : attributeBase o "index" X.env (eval o X.env) = eval o X.env := by rfl)
    (hfew : ((backTo p (starEach [e] X.env)).all (fun x => !x.1) && (backToKw p (keywordEach [] X.env)).all (fun x => x.1.isSome)
      && decide ([e].length + ([] : List Keyword).length + (if ([] : List Keyword).isEmpty then 0 else 1) < 30)) = true := by rfl)
    (hline : (apos.endLine == p.line) = true := by rfl) (hs : starEach [e] X.env = (false, eval e X.env) :: starEach [] X.env := by rfl) (hplain : (backTo p (starEach [] X.env)).any (·.1) = false := by rfl) (hK : X.K = K := by rfl) :
    PE X (.Call (.Attribute o "index" apos) [e] [] p) (tBM K "list" (rIndex K) to t) := by
  subst hK
  exact pe_bm PySem.F.plainAttrs_list PySem.F.slot_list_index PySem.F.type_list_index mt_index ho ha hbase hfew hline hs hplain
theorem rd_bmQ {K : PySem.W.Frag} {r : V → List V → Hp → VK → Prop} {to : TE} {tl : TA} {σ : L2.St} {H : Hp} {Q : VK} (q : to σ H fun x H1 => tyV K "list" x H1 ∧ tl σ H1 fun xs H2 => r x xs H2 Q) : tBM K "list" r to tl σ H Q := q
theorem ty_lst {K : PySem.W.Frag} {H : Hp} {l : Addr} {xs : List V} (h : H l = some (.lst xs)) : tyV K "list" (.ref l) H := .inl ⟨rfl, _, .inl (.inl h)⟩
theorem rd_index {K : PySem.W.Frag} {H : Hp} {l : Addr} {xs : List Str} {s : Str} {Q : VK} (j : Nat) (h : H l = some (.lst (xs.map V.str))) (hj : xs[j]? = some s) (hno : ∀ m, m < j → xs[m]? ≠ some s) (q : Q (.int (j : Nat)) H) : rIndex K (.ref l) [.str s] H Q := by
  refine ⟨l, xs.map V.str, .str s, j, .str s, rfl, rfl, sl_of h, rfl, flat_strs _, by rw [List.getElem?_map, hj] <;> rfl, by simp [eqV], fun m z hm hz => ?_, q⟩
  rw [List.getElem?_map] at hz
  cases e : xs[m]? with
  | none => rw [e] at hz; cases hz
  | some u =>
    rw [e] at hz
    cases hz
    have : u ≠ s := fun z => hno m hm (by rw [e, z])
    simp [eqV, this]
def Fm.kd : Fm → Str
  | .tt b => tw b
  | .pr _ => "equal"
  | .eq _ _ => "equal"
  | .neg _ => "not"
  | .bin k _ _ => k.nm
  | .qu q _ _ => qw q
theorem fm_kd (f : Fm) : ∃ r, f.d = .tuple (.str f.kd :: r) := by cases f <;> exact ⟨_, rfl⟩
theorem fm_sq {K : PySem.W.Frag} {H : Hp} {v : V} {f : Fm} (h : Dp K H v f.d) : ∃ a ys, v = .ref a ∧ SqT K H a (.str f.kd :: ys) := by
  obtain ⟨r, e⟩ := fm_kd f
  rw [e] at h
  obtain ⟨a, xs, rfl, h1, h2⟩ := dp_tup h
  obtain ⟨v, ys, rfl, h3, _⟩ := dps_cons h2
  rw [dp_str h3] at h1
  exact ⟨a, ys, rfl, h1⟩
def bks : List Str := ["iff", "implies", "or", "and"]
def spLevel (K : PySem.W.Frag) : Sp := fun vs H Q _ => ∃ (v : V) (f : Fm), vs = [v] ∧ Dp K H v f.d ∧ ∀ H', Ex H H' → Q (.int (f.own : Nat)) H'
theorem nm_bks (k : Bk) : k.nm ∈ bks := by cases k <;> decide +kernel
theorem nm_at (k : Bk) : bks[k.lv]? = some k.nm ∧ ∀ m, m < k.lv → bks[m]? ≠ some k.nm := by cases k <;> decide +kernel
theorem tw_bks (b : Bool) : tw b ∉ bks := by cases b <;> decide +kernel
theorem qw_bks (b : Bool) : qw b ∉ bks := by cases b <;> decide +kernel
section
variable {P : Program} {w : World} {K : PySem.W.Frag} {mg : Str → Option Value} {base : Heap} {n : Nat}
abbrev N_L_term_words : List Str := ["_law_term", "_law_words_here", "_law_at"]
theorem sc_L_term_words : FnScope N_L_term_words ["_law_term"] (defScope s_L_term_words) := ⟨rfl, rfl, rfl, by decide +kernel, rfl, by decide +kernel, by decide +kernel⟩
theorem ok_L_term_words (T : Txt K mg) (F : Fd K d_L_term_words) (O_L_term_words : Ok P w K mg base (1 + n) (He.ga K "_law_term_words") ["_law_term"] (spTW K n)) : Ok P w K mg base (1 + n + 1) (He.ga K "_law_term_words") ["_law_term"] (spTW K (n + 1)) := by
  refine ok_mk F sc_L_term_words (fun _ _ _ _ _ _ us hl => match us, hl with | [_], _ => rfl) (fun vs H Q E h => ?_) (fun f cdv A outer s H vs Q E hr h => ?_)
  · obtain ⟨_, _, rfl, _⟩ := h
    rfl
  obtain ⟨v, t, rfl, hn3, ht, hd, q⟩ := h
  have p20 : 20 ^ n ≤ 400 := Nat.le_trans (Nat.pow_le_pow_right (by decide) (show n ≤ 2 by omega)) (by decide)
  refine ⟨_, (pss_cons (ps_if (pt_not (pt_val (qcb (qisi K) T fm_isinstance bl_isinstance (pa_cons (pv 0) (pa_cons (qty T fm_tuple bt_tuple) pa_nil))))) (pss_one (ps_ret (pe_lst (pa_cons (pv 0) pa_nil)))) pss_nil)
  (pss_cons (ps_set (i := 1) sc_L_term_words.nd rfl (Or.inl rfl) (pe_lst (pa_cons (qit K (pv 0) pe_int) pa_nil)))
  (pss_cons (ps_for PassesOwn.never rfl (pi_range2 rfl (T.free _ fm_range) (pa_cons pe_int (pa_cons (qcb (qlenQ K) T fm_len bl_len (pa_cons (pv 0) pa_nil)) pa_nil))) (pg_name (i := 2) sc_L_term_words.nd rfl (Or.inl rfl)) (pss_cons (ps_expr (qbm K mt_append (pv 1) (pa_cons (qil K (pe_lst (pa_cons pe_str (pa_cons pe_str pa_nil))) (qct qintI T fm_int bt_int (pa_cons (qcmp op_gt (pv 2) pe_int) pa_nil))) pa_nil)))
  (pss_one (ps_set (i := 1) sc_L_term_words.nd rfl (Or.inl rfl) (pe_op op_cat (pv 1) (qc T gm_L_term_words O_L_term_words (hr.mono (by omega)) (pa_cons (qit K (pv 0) (pv 2)) pa_nil)))))))
  (pss_cons (ps_if (qtst op_gt (qcb (qlenQ K) T fm_len bl_len (pa_cons (pv 0) pa_nil)) pe_int) (pss_one (ps_expr (qbm K mt_append (pv 1) (pa_cons pe_str pa_nil)))) pss_nil)
  (pss_one (ps_ret (pv 1))))))), ?_⟩
  walk_at "rd"
  cases ht with
  | @var _ x =>
    simp only [Tm.d] at hd
    rw [dp_str hd] at *
    refine ⟨.str x, .ty "tuple", .type "str", .type "tuple", false, rfl, .ty _, .base (.str x), kit_ty (by decide +kernel), ?_⟩
    refine ⟨_, rfl, ?_⟩
    refine ift rfl ?_
    walk_at "rd"
    refine rd_newL fun l H1 hl x1 e1 => ?_
    exact q l H1 x1 (by rw [e1] <;> rfl)
  | @app _ f args h8 hargs =>
    simp only [Tm.d] at hd
    obtain ⟨a, xs, rfl, hT, hxs⟩ := dp_tup hd
    obtain ⟨v0, ys, rfl, hv0, hys⟩ := dps_cons hxs
    rw [dp_str hv0] at hT
    have hlen := dps_len hys
    refine ⟨.ref a, .ty "tuple", .type "tuple", .type "tuple", true, rfl, .ty _, ty_tup hT, kit_ty (by decide +kernel), ?_⟩
    refine ⟨_, rfl, ?_⟩
    refine iff' rfl ?_
    walk_at "rd"
    refine rd_ixT hT ix0 ?_
    walk_at "rd"
    refine rd_newL fun l H1 hl x1 e1 => ?_
    have hc : ((((V.str f :: ys).length : Nat) : Int) - 1).toNat = args.length := by rw [List.length_cons, hlen]; omega
    walk_at "rd"
    refine ⟨.ref a, rfl, a, _, rfl, .inr (sqt_ex x1 hT), 1, _, rfl, ⟨by decide, by decide, ?_, ?_⟩, for_range (lo := 1) (TwW H a f args) ⟨l, none, rfl, x1, hl, by rw [e1] <;> rfl⟩ ?_ ?_⟩
    · rw [List.length_cons, hlen]; omega
    · rw [List.length_cons, hlen]; omega
    · rintro i σ H2 hi ⟨l2, x, rfl, x2, hl2, e2⟩
      rw [hc] at hi
      have hb : args[i]? = some args[i] := List.getElem?_eq_getElem hi
      obtain ⟨vb, evb, dvb⟩ := dps_at hys hb
      have hL := lw_take_le h8 hargs i
      have hLb := (hargs _ (List.mem_of_getElem? hb)).len
      walk_at "rd"
      refine rd_bm rfl e2 ?_
      walk_at "rd"
      refine rd_newL fun b3 H3 hb3 x3 e3 => ?_
      walk_at "rd"
      refine rd_intB ?_
      refine rd_ixL (v := .str (if (args.take i).length = 0 then ("(" : Str) else ",")) (sl_of e3) ?_ ?_
      · rw [List.length_take, Nat.min_eq_left (Nat.le_of_lt hi)]
        by_cases h0 : i = 0
        · subst h0; rfl
        · rw [if_neg h0, if_pos (decide_eq_true (by omega))] <;> rfl
      walk_at "rd"
      refine rd_app (x3 _ _ e2) (by rw [List.length_map, List.length_cons]; exact big20 (by omega)) ?_
      generalize hH4 : upd H3 l2 _ = H4
      have x4 : Ex H H4 := by rw [← hH4]; exact Ex.mut (x2.trans x3) hl2
      have e4 : H4 l2 = some (.lst ((f :: (lw (args.take i) ++ [(if (args.take i).length = 0 then ("(" : Str) else ",")])).map V.str)) := by rw [← hH4, upd_same, ← List.cons_append, List.map_append] <;> rfl
      walk_at "rd"
      refine rd_ixT (sqt_ex x4 hT) (at_of (j := i + 1) (by omega) (show _ = some vb from evb)) ?_
      walk_at "rd"
      refine ⟨vb, args[i], rfl, by omega, hargs _ (List.mem_of_getElem? hb), dp_ex x4 _ dvb, fun l5 H5 x5 e5 => ?_⟩
      refine rd_cat (x5 _ _ e4) e5 (by rw [List.length_map, List.length_map, List.length_cons, List.length_append, List.length_singleton]; exact Nat.le_of_lt (big20 (by omega))) fun l6 H6 hl6 x6 e6 => ?_
      walk_at "rd"
      refine ⟨l6, _, rfl, (x4.trans x5).trans x6, (x4.trans x5).free hl6, ?_⟩
      rw [e6, ← List.map_append, List.take_succ, hb, Option.toList_some, lw_snoc]
      simp only [List.cons_append, List.append_assoc, List.singleton_append, List.nil_append]
    · rintro σ H2 ⟨l2, x, rfl, x2, hl2, e2⟩
      rw [hc, List.take_length] at e2
      have hL := lw_take_le h8 hargs args.length
      rw [List.take_length] at hL
      have hT2 := sqt_ex x2 hT
      walk_at "rd"
      refine rd_lenT hT2 ?_
      walk_at "rd"
      by_cases h0 : args.length = 0
      · have h1 : ¬ ((1 : Int) < ((V.str f :: ys).length : Nat)) := by rw [List.length_cons, hlen]; omega
        refine iff' (decide_eq_false h1) ?_
        walk_at "rd"
        refine q l2 H2 x2 ?_
        rw [e2, w_app, if_pos h0, List.append_nil]
      · have h1 : (1 : Int) < ((V.str f :: ys).length : Nat) := by rw [List.length_cons, hlen]; omega
        refine ift (decide_eq_true h1) ?_
        walk_at "rd"
        refine rd_bm rfl e2 ?_
        walk_at "rd"
        refine rd_app e2 (by rw [List.length_map, List.length_cons]; exact big20 (by omega)) ?_
        walk_at "rd"
        refine q l2 _ (Ex.mut x2 hl2) ?_
        rw [upd_same, w_app, if_neg h0, ← List.cons_append, List.map_append] <;> rfl
abbrev N_L_level : List Str := ["_law_formula_here", "_law_kind"]
theorem sc_L_level : FnScope N_L_level ["_law_formula_here"] (defScope s_L_level) := ⟨rfl, rfl, rfl, by decide +kernel, rfl, by decide +kernel, by decide +kernel⟩
theorem ok_L_level (T : Txt K mg) (F : Fd K d_L_level) : Ok P w K mg base 1 (He.ga K "_law_level") ["_law_formula_here"] (spLevel K) := by
  refine ok_mk F sc_L_level (fun _ _ _ _ _ _ us hl => match us, hl with | [_], _ => rfl) (fun vs H Q E h => ?_) (fun f cdv A outer s H vs Q E hr h => ?_)
  · obtain ⟨_, _, rfl, _⟩ := h
    rfl
  obtain ⟨v, f, rfl, hd, q⟩ := h
  obtain ⟨a, ys, rfl, hT⟩ := fm_sq hd
  refine ⟨_, (pss_cons (ps_set (i := 1) sc_L_level.nd rfl (Or.inl rfl) (qit K (pv 0) pe_int))
  (pss_cons (ps_if (qtst (qin K) (pv 1) (pe_lst (pa_cons pe_str (pa_cons pe_str (pa_cons pe_str (pa_cons pe_str pa_nil)))))) (pss_one (ps_ret (qbi K (pe_lst (pa_cons pe_str (pa_cons pe_str (pa_cons pe_str (pa_cons pe_str pa_nil))))) (pa_cons (pv 1) pa_nil)))) pss_nil)
  (pss_one (ps_ret pe_int)))), ?_⟩
  walk_at "rd"
  refine rd_ixT hT ix0 ?_
  walk_at "rd"
  refine rd_newL fun b H1 hb x1 e1 => ?_
  refine rd_inL (xs := bks.map V.str) (sl_of e1) rfl (flat_strs _) ?_
  rw [if_neg Bool.false_ne_true, inV_strs]
  walk_at "rd"
  have no : f.kd ∉ bks → f.own = 4 → (if decide (f.kd ∈ bks) = true then tRet (tBM K "list" (rIndex K) (tLst (tCons (tC (.str "iff")) (tCons (tC (.str "implies")) (tCons (tC (.str "or")) (tCons (tC (.str "and")) tNil))))) (tCons (tVar 1) tNil)) { nx := fun σ H => tRet (tC (.int 4)) { nx := fun _ H' => Q .non H', rt := Q } σ H, rt := Q } [some (.ref a), some (.str f.kd)] H1 else tRet (tC (.int 4)) { nx := fun _ H' => Q .non H', rt := Q } [some (.ref a), some (.str f.kd)] H1) := fun h h4 => by
    refine iff' (decide_eq_false h) ?_
    walk_at "rd"
    have := q H1 x1
    rw [h4] at this
    exact this
  cases f with
  | tt b => exact no (tw_bks b) rfl
  | pr s => exact no (show ("equal" : Str) ∉ bks by decide +kernel) rfl
  | eq s t => exact no (show ("equal" : Str) ∉ bks by decide +kernel) rfl
  | neg f => exact no (show ("not" : Str) ∉ bks by decide +kernel) rfl
  | qu k x f => exact no (qw_bks k) rfl
  | bin k f g =>
    refine ift (decide_eq_true (nm_bks k)) ?_
    walk_at "rd"
    refine rd_bmQ ?_
    walk_at "rd"
    refine rd_newL fun b2 H2 hb2 x2 e2 => ?_
    refine ⟨ty_lst e2, ?_⟩
    walk_at "rd"
    exact rd_index (xs := bks) k.lv e2 (nm_at k).1 (nm_at k).2 (q H2 (x1.trans x2))
end
end Ele
end
section
set_option Elab.async false
set_option linter.all false
set_option maxRecDepth 100000
set_option maxHeartbeats 2000000
local macro_rules | `(tactic| walk_at "rd") => `(tactic| repeat (first
  | with_reducible refine' Ele.rd_seq ?_
  | with_reducible refine' Ele.rd_asg ?_
  | with_reducible refine' Ele.rd_name ?_
  | with_reducible refine' Ele.rd_op ?_
  | ((with_reducible refine' Ele.rd_var ?hv ?_); (case hv => rfl))
  | with_reducible refine' Ele.rd_c ?_
  | with_reducible refine' Ele.rd_rI0 ?_
  | ((with_reducible refine' Ele.rd_eq ?hs ?_); (case hs => rfl))
  | ((with_reducible refine' Ele.rd_ne ?hs ?_); (case hs => rfl))
  | with_reducible refine' Ele.rd_test ?_
  | with_reducible refine' Ele.rd_k ?_
  | with_reducible refine' Ele.rd_if ?_
  | with_reducible refine' Ele.rd_drop ?_
  | with_reducible refine' Ele.rd_ret ?_
  | with_reducible refine' Ele.rd_retN ?_
  | with_reducible refine' Ele.rd_next ?_
  | with_reducible refine' Ele.rd_brk ?_
  | ((with_reducible refine' Ele.rd_aug ?hs ?_); (case hs => rfl))
  | with_reducible refine' Ele.rd_ipI ?_
  | with_reducible refine' Ele.rd_cons ?_
  | with_reducible refine' Ele.rd_nil ?_
  | with_reducible refine' Ele.rd_cl ?_
  | with_reducible refine' Ele.rd_mk ?_
  | with_reducible refine' Ele.rd_cb ?_
  | with_reducible refine' Ele.rd_tup ?_
  | with_reducible refine' Ele.rd_lst ?_
  | with_reducible refine' Ele.rd_not ?_
  | with_reducible refine' Ele.rd_notV ?_
  | with_reducible refine' Ele.rd_and ?_
  | with_reducible refine' Ele.rd_or ?_
  | with_reducible refine' Ele.rd_andV ?_
  | with_reducible refine' Ele.rd_orV ?_
  | with_reducible refine' Ele.rd_add ?_
  | with_reducible refine' Ele.rd_max ?_
  | with_reducible refine' Ele.rd_int ?_
  | with_reducible refine' Ele.rd_tB ?_
  | with_reducible refine' Ele.rd_un ?_
  | ((with_reducible refine' Ele.rd_lenL ?h ?_); (case h => exact Ele.sl_of (by assumption)))
  | ((with_reducible refine' Ele.rd_lenT ?h ?_); (case h => exact Ele.st_of (by assumption)))
  | ((with_reducible refine' Ele.rd_lenS ?h ?_); (case h => assumption))
  | with_reducible refine' Ele.rd_sl ?_
  | with_reducible refine' Ele.rd_part ?_
  | with_reducible refine' Ele.rd_pi ?_
  | ((with_reducible refine' Ele.rd_slS ?h ?_); (case h => assumption))
  | with_reducible refine' Ele.rd_inC ?_
  | ((with_reducible refine' Ele.rd_ixL ?h ?e ?_); (case h => exact Ele.sl_of (by assumption)); (case e => rfl))
  | with_reducible refine' Ele.rd_forL ?_
  | with_reducible refine' Ele.rd_forS ?_
  | with_reducible refine' Ele.rd_fld ?_
  | with_reducible refine' Ele.rd_mt0 ?_
  | ((with_reducible refine' Ele.rd_row ?hT ?hR ?_); (case hT => assumption); (case hR => assumption))
  | ((with_reducible refine' Ele.rd_at ?hT ?hR ?_); (case hT => assumption); (case hR => assumption))
  | ((with_reducible refine' Ele.rd_opc ?hT ?hR ?_); (case hT => assumption); (case hR => assumption))
  | ((with_reducible refine' Ele.rd_scp ?hT ?hR ?_); (case hT => assumption); (case hR => assumption))
  | ((with_reducible refine' Ele.rd_mt ?hR ?hm ?_); (case hR => assumption); (case hm => decide +kernel))
  | ((with_reducible refine' Ele.rd_word ?hR ?_); (case hR => assumption))
  | ((with_reducible refine' Ele.rd_kind ?hR ?_); (case hR => assumption))
  | ((with_reducible refine' Ele.rd_gtup2 ?h ?hn ?_); (case h => assumption); (case hn => rfl))
  | with_reducible refine' Ele.rd_gcons ?_
  | with_reducible refine' Ele.rd_gnil ?_
  | with_reducible refine' Ele.rd_gsub ?_
  | with_reducible refine' Ele.rd_fldset ?_
  ))
namespace Ele
open PySem PySem.Spec PyProof.Rows L2
/-! ### sizes, shapes -/
theorem rn_len {k : RK} {f : Fm} {u : List Str} {sc : List Str} {d : Nat} (h : Rn k f u) (ok : FOk sc d f) (hd : d ≤ 4) (hs : ∀ x ∈ sc, VarOk x) : u.length ≤ 1300 := by
  have h1 := lens h
  have h2 : pb d ≤ pb 4 := pb_mono hd
  have h3 : pb 4 = 16531 := by decide
  have h4 := len_wt u
  cases k with
  | w l last => have := (h1 sc d ok hs).1; omega
  | p last => have := (h1 sc d ok hs).1; omega
  | q b => have := (h1 sc d ok hs).1; omega
theorem wordc_lt {c : Nat} (h : wordc c = true) : c < 0x110000 := by
  unfold wordc small capital at h
  simp only [Bool.or_eq_true, Bool.and_eq_true, decide_eq_true_eq] at h
  omega
theorem nm_strOk {f : Str} (h : Nm f) : PyData.strOk f = true := by
  unfold PyData.strOk
  rw [← Array.all_toList, List.all_eq_true]
  exact fun c hc => decide_eq_true (wordc_lt (h.2.2.2 c hc))
theorem var_strOk {x : Str} (h : VarOk x) : PyData.strOk x = true := by
  simp only [VarOk, List.mem_cons, List.not_mem_nil, or_false] at h
  rcases h with rfl | rfl | rfl | rfl <;> decide +kernel
theorem ds_lay {m : Nat} : ∀ args : List Tm, (∀ a ∈ args, a.d.canLay0 = true ∧ a.d.depth ≤ m) → PyData.canLayAll0 (Tm.ds args) = true ∧ PyData.depthAll (Tm.ds args) ≤ m
  | [], _ => by simp [Tm.ds, PyData.canLayAll0, PyData.depthAll]
  | a :: r, h => by
    have h1 := h a List.mem_cons_self
    have h2 := ds_lay r fun b hb => h b (List.mem_cons_of_mem _ hb)
    simp only [Tm.ds, PyData.canLayAll0, PyData.depthAll, h1.1, h2.1, Bool.and_self, true_and]
    omega
theorem app_lay {f : Str} {args : List Tm} {m : Nat} (hf : Nm f) (h : ∀ a ∈ args, a.d.canLay0 = true ∧ a.d.depth ≤ m) : (Tm.app f args).d.canLay0 = true ∧ (Tm.app f args).d.depth ≤ m + 1 := by
  have h2 := ds_lay args h
  simp only [Tm.d, PyData.canLay0, PyData.canLayAll0, PyData.depth, PyData.depthAll, nm_strOk hf, h2.1, Bool.and_self, true_and]
  omega
theorem TOk.lay {sc : List Str} (hs : ∀ x ∈ sc, VarOk x) {n : Nat} {t : Tm} (h : TOk sc n t) : t.d.canLay0 = true ∧ t.d.depth ≤ n + 1 := by
  induction h with
  | @var n x hx => simp [Tm.d, PyData.canLay0, PyData.depth, var_strOk (hs _ hx)]
  | cst hf =>
    have := app_lay (args := []) (m := 0) hf fun a ha => by cases ha
    exact ⟨this.1, by omega⟩
  | un hf _ ih => exact app_lay hf fun a ha => by rw [List.mem_singleton.mp ha]; exact ih
  | @mu n f args hf _ _ _ ih =>
    have := app_lay (m := 1) hf ih
    exact ⟨this.1, by omega⟩
theorem TOk.shaped {sc : List Str} (hs : ∀ x ∈ sc, VarOk x) {n : Nat} {t : Tm} (h : TOk sc n t) (hn : n ≤ 4) : SeqAt.shaped t.d = true := by
  have := h.lay hs
  unfold SeqAt.shaped
  rw [this.1, decide_eq_true (by omega)] <;> rfl
theorem TOk.noTrue {sc : List Str} {n : Nat} {t : Tm} (h : TOk sc n t) : PyData.eqv t.d trueD = false := by
  have key : ∀ (f : Str) args, Nm f → PyData.eqv (Tm.app f args).d trueD = false := fun f args hf => by
    have : f ≠ ("true" : Str) := fun e => hf.2.1 (by rw [e]; decide +kernel)
    simp [Tm.d, trueD, PyData.eqv, PyData.eqvAll, this]
  cases h with
  | var _ => simp [Tm.d, trueD, PyData.eqv]
  | cst hf => exact key _ _ hf
  | un hf _ => exact key _ _ hf
  | mu hf _ _ _ => exact key _ _ hf
theorem sh_true : SeqAt.shaped trueD = true := by decide +kernel
theorem eqv_true : PyData.eqv trueD trueD = true := by decide +kernel
def qks : List Str := ["all", "some"]
theorem nm_qks (k : Bk) : decide (k.nm ∈ qks) = false := by cases k <;> decide +kernel
theorem tw_qks (b : Bool) : decide (tw b ∈ qks) = false := by cases b <;> decide +kernel
theorem qw_qks (b : Bool) : decide (qw b ∈ qks) = true := by cases b <;> decide +kernel
theorem qw_inj : ∀ a b : Bool, qw a = qw b → a = b := by decide +kernel
theorem kd_q (f : Fm) : decide (f.kd ∈ qks) = f.isQ := by
  cases f with
  | tt b => exact tw_qks b
  | pr s => exact (by decide +kernel : decide (("equal" : Str) ∈ qks) = false)
  | eq s t => exact (by decide +kernel : decide (("equal" : Str) ∈ qks) = false)
  | neg f => exact (by decide +kernel : decide (("not" : Str) ∈ qks) = false)
  | bin k f g => exact nm_qks k
  | qu q x f => exact qw_qks q
theorem qw_mem (q : Bool) : qw q ∈ qks := by cases q <;> decide +kernel
theorem kd_is {f : Fm} {q : Bool} (h : f.kd = qw q) : ∃ x g, f = .qu q x g := by
  have e : f.isQ = true := by rw [← kd_q f, h]; exact decide_eq_true (qw_mem q)
  cases f with
  | qu r x f =>
    have := qw_inj _ _ (show qw r = qw q from h)
    subst this
    exact ⟨x, f, rfl⟩
  | _ => cases e
theorem kd_eq {f : Fm} (h : f.kd = ("equal" : Str)) : (∃ s, f = .pr s) ∨ ∃ s t, f = .eq s t := by
  cases f with
  | pr s => exact .inl ⟨s, rfl⟩
  | eq s t => exact .inr ⟨s, t, rfl⟩
  | tt b => exact absurd (show tw b = ("equal" : Str) from h) (by cases b <;> decide +kernel)
  | neg f => exact absurd (show ("not" : Str) = ("equal" : Str) from h) (by decide +kernel)
  | bin k f g => exact absurd (show k.nm = ("equal" : Str) from h) (by cases k <;> decide +kernel)
  | qu q x f => exact absurd (show qw q = ("equal" : Str) from h) (by cases q <;> decide +kernel)
theorem ok_simple {sc : List Str} {d : Nat} {f : Fm} (ok : FOk sc d f) (hq : f.isQ = false) (ho : f.own = 4) :
    (∃ b, f = .tt b) ∨ (∃ s, f = .pr s ∧ TD 3 s) ∨ (∃ s t, f = .eq s t ∧ TOk sc 2 s ∧ TOk sc 1 t) ∨ (∃ g e, f = .neg g ∧ d = e + 1 ∧ FOk sc e g) := by
  cases ok with
  | tt => exact .inl ⟨_, rfl⟩
  | @bin _ _ k f g h1 h2 => cases k <;> cases ho
  | qu _ _ => cases hq
  | eq hs ht => exact .inr (.inr (.inl ⟨_, _, rfl, hs, ht⟩))
  | neg h1 => exact .inr (.inr (.inr ⟨_, _, rfl, rfl, h1⟩))
  | pr0 h1 => exact .inr (.inl ⟨_, rfl, .app (Nat.zero_le _) fun a ha => by cases ha⟩)
  | pr1 h1 h2 => exact .inr (.inl ⟨_, rfl, .app (Nat.le_of_ble_eq_true rfl) fun a ha => by rw [List.mem_singleton.mp ha]; exact h2.td⟩)
  | pr2 h1 h2 h3 => exact .inr (.inl ⟨_, rfl, .app (Nat.le_of_ble_eq_true rfl) fun a ha => by
      simp only [List.mem_cons, List.not_mem_nil, or_false] at ha
      rcases ha with rfl | rfl
      · exact h2.td
      · exact h3.td⟩)
section
variable {K : PySem.W.Frag} {H : Hp} {v : V} {k : Str} {a b : PyData}
theorem dp_1 (h : Dp K H v (.tuple [.str k])) : ∃ p, v = .ref p ∧ SqT K H p [.str k] := by
  obtain ⟨p, xs, rfl, hT, hx⟩ := dp_tup h
  obtain ⟨v0, ys, rfl, h0, h1⟩ := dps_cons hx
  rw [dp_str h0, dps_nil h1] at hT
  exact ⟨p, rfl, hT⟩
theorem dp_2 (h : Dp K H v (.tuple [.str k, a])) : ∃ p x, v = .ref p ∧ SqT K H p [.str k, x] ∧ Dp K H x a := by
  obtain ⟨p, xs, rfl, hT, hx⟩ := dp_tup h
  obtain ⟨v0, ys, rfl, h0, h1⟩ := dps_cons hx
  obtain ⟨v1, zs, rfl, h2, h3⟩ := dps_cons h1
  rw [dp_str h0, dps_nil h3] at hT
  exact ⟨p, v1, rfl, hT, h2⟩
theorem dp_3 (h : Dp K H v (.tuple [.str k, a, b])) : ∃ p x y, v = .ref p ∧ SqT K H p [.str k, x, y] ∧ Dp K H x a ∧ Dp K H y b := by
  obtain ⟨p, xs, rfl, hT, hx⟩ := dp_tup h
  obtain ⟨v0, ys, rfl, h0, h1⟩ := dps_cons hx
  obtain ⟨v1, zs, rfl, h2, h3⟩ := dps_cons h1
  obtain ⟨v2, us, rfl, h4, h5⟩ := dps_cons h3
  rw [dp_str h0, dps_nil h5] at hT
  exact ⟨p, v1, v2, rfl, hT, h2, h4⟩
end
theorem StX.sqt {st sl : Addr} {H H' : Hp} {K : PySem.W.Frag} {a : Addr} {xs : List V} (h : StX st sl H) (f : Fx st H H') (e : SqT K H a xs) : SqT K H' a xs := sqt_fx h.noT h.noF f e
def spWords (K : PySem.W.Frag) (n : Nat) : Sp := fun vs H Q _ => ∃ (st sl : Addr) (v : V) (sc : List Str) (d : Nat) (f : Fm) (l : Nat) (last : Bool), vs = [.ref st, v, .int l, .bl last] ∧ d < n ∧ d ≤ 4 ∧ FOk sc d f ∧ (∀ x ∈ sc, VarOk x) ∧ StX st sl H ∧ Dp K H v f.d ∧
  ∀ (u : List Str) (p : Addr) (H' : Hp), Rn (.w l last) f u → H' p = some (.lst (u.map V.str)) → Fx st H H' → StX st sl H' → Q (.ref p) H'
def spPlain (K : PySem.W.Frag) (n : Nat) : Sp := fun vs H Q _ => ∃ (st sl : Addr) (v : V) (sc : List Str) (d : Nat) (f : Fm) (last : Bool), vs = [.ref st, v, .bl last] ∧ d < n ∧ d ≤ 4 ∧ FOk sc d f ∧ (∀ x ∈ sc, VarOk x) ∧ StX st sl H ∧ Dp K H v f.d ∧
  ∀ (u : List Str) (p : Addr) (H' : Hp), Rn (.p last) f u → H' p = some (.lst (u.map V.str)) → Fx st H H' → StX st sl H' → Q (.ref p) H'
def spSimple (K : PySem.W.Frag) (n : Nat) : Sp := fun vs H Q _ => ∃ (st sl : Addr) (v : V) (sc : List Str) (d : Nat) (f : Fm), vs = [.ref st, v] ∧ d < n ∧ d ≤ 4 ∧ FOk sc d f ∧ (∀ x ∈ sc, VarOk x) ∧ StX st sl H ∧ Dp K H v f.d ∧ f.isQ = false ∧ f.own = 4 ∧
  ∀ (u : List Str) (p : Addr) (H' : Hp), (∀ last, Rn (.p last) f u) → H' p = some (.lst (u.map V.str)) → Fx st H H' → StX st sl H' → Q (.ref p) H'
def spScope (K : PySem.W.Frag) (n : Nat) : Sp := fun vs H Q _ => ∃ (st sl : Addr) (v : V) (sc : List Str) (d : Nat) (f : Fm), vs = [.ref st, v] ∧ d < n ∧ d ≤ 4 ∧ FOk sc d f ∧ (∀ x ∈ sc, VarOk x) ∧ StX st sl H ∧ Dp K H v f.d ∧ f.isQ = true ∧
  ∀ (u : List Str) (p : Addr) (H' : Hp), (∀ last, Rn (.p last) f u) → H' p = some (.lst (u.map V.str)) → Fx st H H' → StX st sl H' → Q (.ref p) H'
section
variable {P : Program} {w : World} {K : PySem.W.Frag} {mg : Str → Option Value} {base : Heap} {n : Nat}
theorem tw_two {H : Hp} {Q : VK} {σ : L2.St} {k : Nat} {p : Addr} {x y : V} {z mid : Str} {s t : Tm} (hs : σ[k]? = some (some (V.ref p))) (hT : SqT K H p [.str z, x, y]) (dx : Dp K H x s.d) (dy : Dp K H y t.d) (hx : TD 3 s) (hy : TD 3 t)
    (q : ∀ (p' : Addr) (H' : Hp), Ex H H' → H' p' = some (.lst ((s.w ++ mid :: t.w).map V.str)) → Q (.ref p') H') :
    tOp rCat (tOp rCat (tCl (spTW K 3) (tCons (tOp (rIxT K) (tVar k) (tC (.int 1))) tNil)) (tLst (tCons (tC (.str mid)) tNil))) (tCl (spTW K 3) (tCons (tOp (rIxT K) (tVar k) (tC (.int 2))) tNil)) σ H Q := by
  have lx := hx.len
  have ly := hy.len
  have p3 : 20 ^ 3 = 8000 := by decide
  refine rd_op ?_
  refine rd_op ?_
  refine rd_cl ?_
  refine rd_cons ?_
  refine rd_op ?_
  refine rd_var hs ?_
  refine rd_c ?_
  refine rd_ixT hT ix1 ?_
  refine rd_nil ?_
  refine ⟨x, s, rfl, by decide, hx, dx, fun l1 H1 x1 e1 => ?_⟩
  refine rd_lst ?_
  refine rd_cons ?_
  refine rd_c ?_
  refine rd_nil ?_
  refine rd_newL fun b H2 hb x2 e2 => ?_
  refine rd_cat (x2 _ _ e1) e2 (by rw [List.length_map, List.length_singleton]; exact Nat.le_of_lt (big20 (by omega))) fun l3 H3 hl3 x3 e3 => ?_
  refine rd_cl ?_
  refine rd_cons ?_
  refine rd_op ?_
  refine rd_var hs ?_
  refine rd_c ?_
  refine rd_ixT (sqt_ex ((x1.trans x2).trans x3) hT) ix2 ?_
  refine rd_nil ?_
  refine ⟨y, t, rfl, by decide, hy, dp_ex ((x1.trans x2).trans x3) _ dy, fun l4 H4 x4 e4 => ?_⟩
  refine rd_cat (x4 _ _ e3) e4 (by rw [List.length_append, List.length_map, List.length_map, List.length_singleton]; exact Nat.le_of_lt (big20 (by omega))) fun l5 H5 hl5 x5 e5 => ?_
  refine q l5 H5 ((((x1.trans x2).trans x3).trans x4).trans x5) ?_
  rw [e5]
  simp
abbrev N_L_simple_words : List Str := ["_law_state_here", "_law_formula_here", "_law_inner"]
theorem sc_L_simple_words : FnScope N_L_simple_words ["_law_state_here", "_law_formula_here"] (defScope s_L_simple_words) := ⟨rfl, rfl, rfl, by decide +kernel, rfl, by decide +kernel, by decide +kernel⟩
theorem ok_L_simple_words (T : Txt K mg) (F : Fd K d_L_simple_words) (O_L_draw : Ok P w K mg base 1 (He.ga K "_law_draw") ["_law_state_here", "_law_many"] spDraw) (O_L_term_words : Ok P w K mg base 4 (He.ga K "_law_term_words") ["_law_term"] (spTW K 3))
    (O_L_words : Ok P w K mg base (6 + 3 * n) (He.ga K "_law_words") ["_law_state_here", "_law_formula_here", "_law_level_here", "_law_last"] (spWords K n)) : Ok P w K mg base (6 + 3 * n + 1) (He.ga K "_law_simple_words") ["_law_state_here", "_law_formula_here"] (spSimple K (n + 1)) := by
  refine ok_mk F sc_L_simple_words (fun _ _ _ _ _ _ us hl => match us, hl with | [_, _], _ => rfl) (fun vs H Q E h => ?_) (fun f cdv A outer s H vs Q E hr h => ?_)
  · obtain ⟨_, _, _, _, _, _, rfl, _⟩ := h
    rfl
  obtain ⟨st, sl, v, sc, d, f, rfl, hdn, hd4, ok, hsc, hS, hd, hq, ho, q⟩ := h
  refine ⟨_, (pss_cons (ps_if (qtst op_eq (qcb (qlenQ K) T fm_len bl_len (pa_cons (pv 1) pa_nil)) pe_int) (pss_one (ps_ret (pe_lst (pa_cons (qit K (pv 1) pe_int) pa_nil)))) pss_nil)
  (pss_cons (ps_if (qtst op_eq (qit K (pv 1) pe_int) pe_str) (pss_cons (ps_if (qtst (qeqD K hr.units) (qit K (pv 1) pe_int) (pe_tup (pa_cons pe_str pa_nil))) (pss_one (ps_ret (qc T gm_L_term_words O_L_term_words (hr.mono (by omega)) (pa_cons (qit K (pv 1) pe_int) pa_nil)))) pss_nil)
  (pss_one (ps_ret (pe_op op_cat (pe_op op_cat (qc T gm_L_term_words O_L_term_words (hr.mono (by omega)) (pa_cons (qit K (pv 1) pe_int) pa_nil)) (pe_lst (pa_cons pe_str pa_nil))) (qc T gm_L_term_words O_L_term_words (hr.mono (by omega)) (pa_cons (qit K (pv 1) pe_int) pa_nil)))))) pss_nil)
  (pss_cons (ps_set (i := 2) sc_L_simple_words.nd rfl (Or.inl rfl) (qit K (pv 1) pe_int))
  (Evl.pss_cut (ps_if (PW.pt (pw_and (qtst op_eq (qit K (pv 2) pe_int) pe_str) (pw_and (qtst (qneD K hr.units) (qit K (pv 2) pe_int) (pe_tup (pa_cons pe_str pa_nil))) (pw_and1 (qtst op_gt (qc T gm_L_draw O_L_draw (hr.mono (by omega)) (pa_cons (pv 0) (pa_cons pe_int pa_nil))) pe_int))))) (pss_one (ps_ret (pe_op op_cat (pe_op op_cat (qc T gm_L_term_words O_L_term_words (hr.mono (by omega)) (pa_cons (qit K (pv 2) pe_int) pa_nil)) (pe_lst (pa_cons pe_str pa_nil))) (qc T gm_L_term_words O_L_term_words (hr.mono (by omega)) (pa_cons (qit K (pv 2) pe_int) pa_nil))))) pss_nil)
  (pss_one (ps_ret (pe_op op_cat (pe_lst (pa_cons pe_str pa_nil)) (qc T gm_L_words O_L_words (hr.mono (by omega)) (pa_cons (pv 0) (pa_cons (pv 2) (pa_cons pe_int (pa_cons pe_bl pa_nil)))))))))))), ?_⟩
  rcases ok_simple ok hq ho with ⟨b, rfl⟩ | ⟨s, rfl, hs⟩ | ⟨s, t, rfl, hs, ht⟩ | ⟨g, e, rfl, rfl, okg⟩
  · obtain ⟨p, rfl, hT⟩ := dp_1 hd
    walk_at "rd"
    refine rd_lenT hT ?_
    walk_at "rd"
    refine ift rfl ?_
    walk_at "rd"
    refine rd_ixT hT ix0 ?_
    walk_at "rd"
    refine rd_newL fun l H1 hl x1 e1 => ?_
    exact q [tw b] l H1 (fun _ => .tt) e1 x1.fx (hS.ex x1)
  · obtain ⟨p, x, y, rfl, hT, dx, dy⟩ := dp_3 hd
    walk_at "rd"
    refine rd_lenT hT ?_
    walk_at "rd"
    refine iff' rfl ?_
    walk_at "rd"
    refine rd_ixT hT ix0 ?_
    walk_at "rd"
    refine ift (dT rfl) ?_
    walk_at "rd"
    refine rd_ixT hT ix2 ?_
    walk_at "rd"
    refine rd_newT fun tp H1 htp x1 e1 => ?_
    refine ⟨trueD, trueD, dp_ex x1 _ dy, .tup (st_of e1) (.cons (.str _) .nil), sh_true, sh_true, ?_⟩
    rw [eqv_true]
    refine ⟨_, rfl, ?_⟩
    refine ift rfl ?_
    walk_at "rd"
    refine rd_ixT (sqt_ex x1 hT) ix1 ?_
    walk_at "rd"
    exact ⟨x, s, rfl, by decide, hs, dp_ex x1 _ dx, fun l H2 x2 e2 => q _ l H2 (fun _ => .pr) e2 (x1.trans x2).fx (hS.ex (x1.trans x2))⟩
  · obtain ⟨p, x, y, rfl, hT, dx, dy⟩ := dp_3 hd
    walk_at "rd"
    refine rd_lenT hT ?_
    walk_at "rd"
    refine iff' rfl ?_
    walk_at "rd"
    refine rd_ixT hT ix0 ?_
    walk_at "rd"
    refine ift (dT rfl) ?_
    walk_at "rd"
    refine rd_ixT hT ix2 ?_
    walk_at "rd"
    refine rd_newT fun tp H1 htp x1 e1 => ?_
    refine ⟨t.d, trueD, dp_ex x1 _ dy, .tup (st_of e1) (.cons (.str _) .nil), ht.shaped hsc (by decide), sh_true, ?_⟩
    rw [ht.noTrue]
    refine ⟨_, rfl, ?_⟩
    refine iff' rfl ?_
    refine rd_next ?_
    with_reducible refine rd_ret ?_
    exact tw_two rfl (sqt_ex x1 hT) (dp_ex x1 _ dx) (dp_ex x1 _ dy) hs.td (ht.td.mono (by decide)) fun p' H' x' e' => q _ p' H' (fun _ => .eq) e' (x1.trans x').fx (hS.ex (x1.trans x'))
  · obtain ⟨p, x, rfl, hT, dx⟩ := dp_2 hd
    walk_at "rd"
    refine rd_lenT hT ?_
    walk_at "rd"
    refine iff' rfl ?_
    walk_at "rd"
    refine rd_ixT hT ix0 ?_
    walk_at "rd"
    refine iff' (dF (by decide +kernel)) ?_
    walk_at "rd"
    refine rd_ixT hT ix1 ?_
    walk_at "rd"
    refine rd_cut (fun σ' H' => σ' = [some (.ref st), some (.ref p), some x] ∧ Fx st H H' ∧ StX st sl H') ?_ ?_
    · obtain ⟨pg, ys, rfl, hTg⟩ := fm_sq dx
      walk_at "rd"
      refine rd_ixT hTg ix0 ?_
      walk_at "rd"
      by_cases hk : g.kd = ("equal" : Str)
      · refine ift (dT hk) ?_
        walk_at "rd"
        rcases kd_eq hk with ⟨s, rfl⟩ | ⟨s, t, rfl⟩
        · obtain ⟨_, x3, y3, e3, hT3, dx3, dy3⟩ := dp_3 dx
          cases e3
          refine rd_ixT hT3 ix2 ?_
          walk_at "rd"
          refine rd_newT fun tp H1 htp x1 e1 => ?_
          refine ⟨trueD, trueD, dp_ex x1 _ dy3, .tup (st_of e1) (.cons (.str _) .nil), sh_true, sh_true, ?_⟩
          rw [eqv_true]
          refine ⟨_, rfl, ?_⟩
          refine iff' rfl ?_
          refine iff' rfl ?_
          exact rd_next ⟨rfl, x1.fx, hS.ex x1⟩
        · obtain ⟨hs, ht⟩ : TOk sc 2 s ∧ TOk sc 1 t := by
            cases okg with
            | eq a b => exact ⟨a, b⟩
          obtain ⟨_, x3, y3, e3, hT3, dx3, dy3⟩ := dp_3 dx
          cases e3
          refine rd_ixT hT3 ix2 ?_
          walk_at "rd"
          refine rd_newT fun tp H1 htp x1 e1 => ?_
          refine ⟨t.d, trueD, dp_ex x1 _ dy3, .tup (st_of e1) (.cons (.str _) .nil), ht.shaped hsc (by decide), sh_true, ?_⟩
          rw [ht.noTrue]
          refine ⟨_, rfl, ?_⟩
          refine ift rfl ?_
          have s1 := hS.ex x1
          walk_at "rd"
          refine ⟨st, sl, 3, rfl, by decide, by decide, s1, fun j H2 j0 j1 f2 s2 => ?_⟩
          walk_at "rd"
          by_cases h0 : 0 < j
          · refine ift (decide_eq_true h0) ?_
            with_reducible refine rd_ret ?_
            exact tw_two rfl (s1.sqt f2 (sqt_ex x1 hT3)) (s1.dp f2 (tmd_flat s) (dp_ex x1 _ dx3)) (s1.dp f2 (tmd_flat t) (dp_ex x1 _ dy3)) hs.td (ht.td.mono (by decide)) fun p' H' x' e' => q _ p' H' (fun _ => .ne) e' ((x1.fx.trans f2).ex x') (s2.ex x')
          · refine iff' (decide_eq_false h0) ?_
            exact rd_next ⟨rfl, x1.fx.trans f2, s2⟩
      · refine iff' (dF hk) ?_
        refine iff' rfl ?_
        exact rd_next ⟨rfl, Fx.refl _ _, hS⟩
    rintro σ' H1 ⟨rfl, f1, s1⟩
    walk_at "rd"
    refine rd_newL fun b H2 hb x2 e2 => ?_
    have s2 := s1.ex x2
    walk_at "rd"
    refine ⟨st, sl, x, sc, e, g, 4, false, rfl, by omega, by omega, okg, hsc, s2, dp_ex x2 _ (hS.dp f1 (fmd_flat g) dx), fun u p' H3 hu e3 f3 s3 => ?_⟩
    have e2' := s2.strs f3 (l := ["~"]) e2
    have lu := rn_len hu okg (by omega) hsc
    refine rd_cat e2' e3 (by rw [List.length_map, List.length_map, List.length_singleton]; exact Nat.le_of_lt (big20 (by omega))) fun l4 H4 hl4 x4 e4 => ?_
    exact q ("~" :: u) l4 H4 (fun _ => .neg hu) (by rw [e4] <;> rfl) (((f1.ex x2).trans f3).ex x4) (s3.ex x4)
/-- among the variables -/
def ScW (K : PySem.W.Frag) (st sl p : Addr) (q : Bool) (x0 : Str) (f0 : Fm) (d : Nat) (H0 : Hp) (m : Nat) (σ : L2.St) (H : Hp) : Prop :=
  ∃ (l : Addr) (v : V) (pre : List Str) (sc : List Str) (g : Fm), σ = [some (.ref st), some (.ref p), some (.ref l), some v] ∧ Fx st H0 H ∧ StX st sl H ∧ H l = some (.lst ((qw q :: x0 :: pre).map V.str)) ∧ FOk sc m g ∧ (∀ x ∈ sc, VarOk x) ∧ m ≤ d ∧ pre.length + 2 * m ≤ 8 ∧ Dp K H v g.d ∧ ∀ u, Rn (.q q) g u → Rn (.q q) f0 (pre ++ u)
abbrev N_L_scope_words : List Str := ["_law_state_here", "_law_formula_here", "_law_words_here", "_law_body"]
theorem sc_L_scope_words : FnScope N_L_scope_words ["_law_state_here", "_law_formula_here"] (defScope s_L_scope_words) := ⟨rfl, rfl, rfl, by decide +kernel, rfl, by decide +kernel, by decide +kernel⟩
theorem ok_L_scope_words (T : Txt K mg) (F : Fd K d_L_scope_words) (O_L_draw : Ok P w K mg base 1 (He.ga K "_law_draw") ["_law_state_here", "_law_many"] spDraw)
    (O_L_words : Ok P w K mg base (6 + 3 * n) (He.ga K "_law_words") ["_law_state_here", "_law_formula_here", "_law_level_here", "_law_last"] (spWords K n)) : Ok P w K mg base (6 + 3 * n + 1) (He.ga K "_law_scope_words") ["_law_state_here", "_law_formula_here"] (spScope K (n + 1)) := by
  refine ok_mk F sc_L_scope_words (fun _ _ _ _ _ _ us hl => match us, hl with | [_, _], _ => rfl) (fun vs H Q E h => ?_) (fun f cdv A outer s H vs Q E hr h => ?_)
  · obtain ⟨_, _, _, _, _, _, rfl, _⟩ := h
    rfl
  obtain ⟨st, sl, v, sc, d, f, rfl, hdn, hd4, ok, hsc, hS, hd, hq, q⟩ := h
  refine ⟨_, (pss_cons (ps_set (i := 2) sc_L_scope_words.nd rfl (Or.inl rfl) (pe_lst (pa_cons (qit K (pv 1) pe_int) (pa_cons (qit K (pv 1) pe_int) pa_nil))))
  (pss_cons (ps_set (i := 3) sc_L_scope_words.nd rfl (Or.inl rfl) (qit K (pv 1) pe_int))
  (pss_cons (ps_while PassesOwn.never (PW.pt (pw_and (qtst op_eq (qit K (pv 3) pe_int) (qit K (pv 1) pe_int)) (pw_and1 (qtst op_eq (qc T gm_L_draw O_L_draw (hr.mono (by omega)) (pa_cons (pv 0) (pa_cons pe_int pa_nil))) pe_int)))) (pss_cons (ps_set (i := 2) sc_L_scope_words.nd rfl (Or.inl rfl) (pe_op op_cat (pv 2) (pe_lst (pa_cons pe_str (pa_cons (qit K (pv 3) pe_int) pa_nil)))))
  (pss_one (ps_set (i := 3) sc_L_scope_words.nd rfl (Or.inl rfl) (qit K (pv 3) pe_int)))))
  (pss_one (ps_ret (pe_op op_cat (pe_op op_cat (pv 2) (pe_lst (pa_cons pe_str pa_nil))) (qc T gm_L_words O_L_words (hr.mono (by omega)) (pa_cons (pv 0) (pa_cons (pv 3) (pa_cons pe_int (pa_cons pe_bl pa_nil))))))))))), ?_⟩
  cases ok with
  | @qu _ d qb x0 f0 vx okf =>
    obtain ⟨p, xv, y, rfl, hT, dx, dy⟩ := dp_3 hd
    rw [dp_str dx] at hT
    walk_at "rd"
    refine rd_ixT hT ix0 ?_
    walk_at "rd"
    refine rd_ixT hT ix1 ?_
    walk_at "rd"
    refine rd_newL fun l1 H1 hl1 x1 e1 => ?_
    walk_at "rd"
    refine rd_ixT (sqt_ex x1 hT) ix2 ?_
    walk_at "rd"
    refine ⟨ScW K st sl p qb x0 f0 d H, ⟨d, l1, y, [], sc ++ [x0], f0, rfl, x1.fx, hS.ex x1, e1, okf, fun z hz => ?_, Nat.le_refl _, by rw [List.length_nil]; omega, dp_ex x1 _ dy, fun u hu => hu⟩, ?_⟩
    · rcases List.mem_append.mp hz with hz | hz
      · exact hsc z hz
      · rw [List.mem_singleton.mp hz]; exact vx
    rintro m σ H2 ⟨l2, v2, pre, sc2, g, rfl, f2, s2, e2, okg, hsc2, hm, hpre, dg, hrn⟩
    obtain ⟨pg, ys, rfl, hTg⟩ := fm_sq dg
    have hT2 := hS.sqt f2 hT
    have fin : ∀ {D : Ends} {H3 : Hp}, D.rt = Q → Fx st H2 H3 → StX st sl H3 → tRet (tOp rCat (tOp rCat (tVar 2) (tLst (tCons (tC (.str ":")) tNil))) (tCl (spWords K n) (tCons (tVar 0) (tCons (tVar 3) (tCons (tC (.int 0)) (tCons (tC (.bl true)) tNil)))))) D [some (.ref st), some (.ref p), some (.ref l2), some (.ref pg)] H3 := fun {D H3} hD f3 s3 => by
      have e3 : H3 l2 = some (.lst ((qw qb :: x0 :: pre).map V.str)) := s2.strs f3 e2
      walk_at "rd"
      refine rd_newL fun b H4 hb x4 e4 => ?_
      refine rd_cat (x4 _ _ e3) e4 (by rw [List.length_map, List.length_cons, List.length_cons, List.length_singleton]; exact Nat.le_of_lt (big20 (by omega))) fun l5 H5 hl5 x5 e5 => ?_
      have s5 := (s3.ex x4).ex x5
      have e5' : H5 l5 = some (.lst ((qw qb :: x0 :: (pre ++ [(":" : Str)])).map V.str)) := by rw [e5]; simp
      walk_at "rd"
      rw [hD]
      refine ⟨st, sl, .ref pg, sc2, m, g, 0, true, rfl, by omega, by omega, okg, hsc2, s5, dp_ex (x4.trans x5) _ (s2.dp f3 (fmd_flat g) dg), fun u p' H6 hu e6 f6 s6 => ?_⟩
      have lu := rn_len hu okg (by omega) hsc2
      refine rd_cat (s5.strs f6 e5') e6 (by rw [List.length_map, List.length_map, List.length_cons, List.length_cons, List.length_append, List.length_singleton]; exact Nat.le_of_lt (big20 (by omega))) fun l7 H7 hl7 x7 e7 => ?_
      refine q (qw qb :: x0 :: (pre ++ (":" : Str) :: u)) l7 H7 (fun _ => .qu (hrn _ (.stop hu))) (by rw [e7]; simp) (((((f2.trans f3).ex x4).ex x5).trans f6).ex x7) (s6.ex x7)
    walk_at "rd"
    refine rd_ixT hTg ix0 ?_
    walk_at "rd"
    refine rd_ixT hT2 ix0 ?_
    walk_at "rd"
    by_cases hk : g.kd = qw qb
    · refine ift (dT hk) ?_
      walk_at "rd"
      refine ⟨st, sl, 2, rfl, by decide, by decide, s2, fun j H3 j0 j1 f3 s3 => ?_⟩
      walk_at "rd"
      by_cases h0 : j = 0
      · refine ift (decide_eq_true (congrArg V.int h0)) ?_
        obtain ⟨x5, g5, rfl⟩ := kd_is hk
        obtain ⟨_, xv5, y5, e5, hT5, dx5, dy5⟩ := dp_3 dg
        cases e5
        rw [dp_str dx5] at hT5
        have hT5' := s2.sqt f3 hT5
        have e3 : H3 l2 = some (.lst ((qw qb :: x0 :: pre).map V.str)) := s2.strs f3 e2
        cases okg with
        | @qu _ m _ _ _ vx5 okg5 =>
          refine ⟨fun σ2 H2 => ∃ m', m' < m + 1 ∧ ScW K st sl p qb x0 f0 d H m' σ2 H2, fun _ _ h => h, ?_⟩
          walk_at "rd"
          refine rd_ixT hT5' ix1 ?_
          walk_at "rd"
          refine rd_newL fun b H4 hb x4 e4 => ?_
          refine rd_cat (x4 _ _ e3) e4 (by rw [List.length_map, List.length_cons, List.length_cons]; exact Nat.le_of_lt (big20 (show _ ≤ 200000 by simp only [List.length_cons, List.length_nil]; omega))) fun l5 H5 hl5 x5' e5 => ?_
          walk_at "rd"
          refine rd_ixT (sqt_ex (x4.trans x5') hT5') ix2 ?_
          walk_at "rd"
          refine ⟨m, Nat.lt_succ_self _, l5, y5, pre ++ [("," : Str), x5], sc2 ++ [x5], g5, rfl, ((f2.trans f3).ex x4).ex x5', (s3.ex x4).ex x5', by rw [e5]; simp, okg5, fun z hz => ?_, by omega, by simp only [List.length_append, List.length_cons, List.length_nil]; omega, dp_ex (x4.trans x5') _ (s2.dp f3 (fmd_flat g5) dy5), fun u hu => ?_⟩
          · rcases List.mem_append.mp hz with hz | hz
            · exact hsc2 z hz
            · rw [List.mem_singleton.mp hz]; exact vx5
          · have := hrn _ (.more hu (x := x5))
            simpa using this
      · refine iff' (decide_eq_false fun e => h0 (V.int.inj e)) ?_
        exact fin rfl f3 s3
    · refine iff' (dF hk) ?_
      refine iff' rfl ?_
      exact fin rfl (Fx.refl _ _) s2
  | _ => cases hq
abbrev N_L_plain_words : List Str := ["_law_state_here", "_law_formula_here", "_law_last", "_law_kind", "_law_own", "_law_left", "_law_right", "_law_words_here"]
theorem sc_L_plain_words : FnScope N_L_plain_words ["_law_state_here", "_law_formula_here", "_law_last"] (defScope s_L_plain_words) := ⟨rfl, rfl, rfl, by decide +kernel, rfl, by decide +kernel, by decide +kernel⟩
theorem ok_L_plain_words (T : Txt K mg) (F : Fd K d_L_plain_words) (O_L_level : Ok P w K mg base 1 (He.ga K "_law_level") ["_law_formula_here"] (spLevel K)) (O_L_simple_words : Ok P w K mg base (6 + 3 * n + 1) (He.ga K "_law_simple_words") ["_law_state_here", "_law_formula_here"] (spSimple K (n + 1)))
    (O_L_scope_words : Ok P w K mg base (6 + 3 * n + 1) (He.ga K "_law_scope_words") ["_law_state_here", "_law_formula_here"] (spScope K (n + 1)))
    (O_L_words : Ok P w K mg base (6 + 3 * n) (He.ga K "_law_words") ["_law_state_here", "_law_formula_here", "_law_level_here", "_law_last"] (spWords K n)) : Ok P w K mg base (6 + 3 * n + 2) (He.ga K "_law_plain_words") ["_law_state_here", "_law_formula_here", "_law_last"] (spPlain K (n + 1)) := by
  refine ok_mk F sc_L_plain_words (fun _ _ _ _ _ _ us hl => match us, hl with | [_, _, _], _ => rfl) (fun vs H Q E h => ?_) (fun f cdv A outer s H vs Q E hr h => ?_)
  · obtain ⟨_, _, _, _, _, _, _, rfl, _⟩ := h
    rfl
  obtain ⟨st, sl, v, sc, d, f, last, rfl, hdn, hd4, ok, hsc, hS, hd, q⟩ := h
  obtain ⟨a, ys, rfl, hT⟩ := fm_sq hd
  refine ⟨_, (pss_cons (ps_set (i := 3) sc_L_plain_words.nd rfl (Or.inl rfl) (qit K (pv 1) pe_int))
  (pss_cons (ps_set (i := 4) sc_L_plain_words.nd rfl (Or.inl rfl) (qc T gm_L_level O_L_level (hr.mono (by omega)) (pa_cons (pv 1) pa_nil)))
  (pss_cons (ps_if (qtst (qin K) (pv 3) (pe_lst (pa_cons pe_str (pa_cons pe_str pa_nil)))) (pss_one (ps_ret (qc T gm_L_scope_words O_L_scope_words (hr.mono (by omega)) (pa_cons (pv 0) (pa_cons (pv 1) pa_nil))))) pss_nil)
  (pss_cons (ps_if (qtst op_eq (pv 4) pe_int) (pss_one (ps_ret (qc T gm_L_simple_words O_L_simple_words (hr.mono (by omega)) (pa_cons (pv 0) (pa_cons (pv 1) pa_nil))))) pss_nil)
  (pss_cons (ps_set (i := 5) sc_L_plain_words.nd rfl (Or.inl rfl) (qil K (pe_lst (pa_cons pe_int (pa_cons pe_int (pa_cons pe_int (pa_cons pe_int pa_nil))))) (pv 4)))
  (pss_cons (ps_set (i := 6) sc_L_plain_words.nd rfl (Or.inl rfl) (qil K (pe_lst (pa_cons pe_int (pa_cons pe_int (pa_cons pe_int (pa_cons pe_int pa_nil))))) (pv 4)))
  (pss_cons (ps_set (i := 7) sc_L_plain_words.nd rfl (Or.inl rfl) (pe_op op_cat (qc T gm_L_words O_L_words (hr.mono (by omega)) (pa_cons (pv 0) (pa_cons (qit K (pv 1) pe_int) (pa_cons (pv 5) (pa_cons pe_bl pa_nil))))) (pe_lst (pa_cons (qil K (pe_lst (pa_cons pe_str (pa_cons pe_str (pa_cons pe_str (pa_cons pe_str pa_nil))))) (pv 4)) pa_nil))))
  (pss_one (ps_ret (pe_op op_cat (pv 7) (qc T gm_L_words O_L_words (hr.mono (by omega)) (pa_cons (pv 0) (pa_cons (qit K (pv 1) pe_int) (pa_cons (pv 6) (pa_cons (pv 2) pa_nil))))))))))))))), ?_⟩
  walk_at "rd"
  refine rd_ixT hT ix0 ?_
  walk_at "rd"
  refine ⟨.ref a, f, rfl, hd, fun H1 x1 => ?_⟩
  have s1 := hS.ex x1
  have hd1 := dp_ex x1 _ hd
  walk_at "rd"
  refine rd_newL fun b2 H2 hb2 x2 e2 => ?_
  refine rd_inL (xs := qks.map V.str) (sl_of e2) rfl (flat_strs _) ?_
  rw [if_neg Bool.false_ne_true, inV_strs, kd_q]
  have s2 := s1.ex x2
  have hd2 := dp_ex x2 _ hd1
  have x12 := x1.trans x2
  walk_at "rd"
  cases hq : f.isQ with
  | true =>
    refine ift rfl ?_
    walk_at "rd"
    exact ⟨st, sl, .ref a, sc, d, f, rfl, hdn, hd4, ok, hsc, s2, hd2, hq, fun u p H3 hu e3 f3 s3 => q u p H3 (hu last) e3 (x12.fx.trans f3) s3⟩
  | false =>
    refine iff' rfl ?_
    walk_at "rd"
    by_cases ho : f.own = 4
    · refine ift (decide_eq_true (by rw [ho] <;> rfl)) ?_
      walk_at "rd"
      exact ⟨st, sl, .ref a, sc, d, f, rfl, hdn, hd4, ok, hsc, s2, hd2, hq, ho, fun u p H3 hu e3 f3 s3 => q u p H3 (hu last) e3 (x12.fx.trans f3) s3⟩
    · refine iff' (decide_eq_false fun e => ho (by have := V.int.inj e; omega)) ?_
      cases ok with
      | @bin _ d k g1 g2 ok1 ok2 =>
        obtain ⟨_, x, y, e0, hT0, dx, dy⟩ := dp_3 hd2
        cases e0
        walk_at "rd"
        refine rd_newL fun b3 H3 hb3 x3 e3 => ?_
        walk_at "rd"
        refine rd_ixL (v := .int (k.left : Nat)) (sl_of e3) (by cases k <;> rfl) ?_
        walk_at "rd"
        refine rd_newL fun b4 H4 hb4 x4 e4 => ?_
        walk_at "rd"
        refine rd_ixL (v := .int (k.right : Nat)) (sl_of e4) (by cases k <;> rfl) ?_
        have x34 := x3.trans x4
        have hT4 := sqt_ex x34 hT0
        have s4 := s2.ex x34
        walk_at "rd"
        refine rd_ixT hT4 ix1 ?_
        walk_at "rd"
        refine ⟨st, sl, x, sc, d, g1, k.left, false, rfl, by omega, by omega, ok1, hsc, s4, dp_ex x34 _ dx, fun u1 p5 H5 hu1 e5 f5 s5 => ?_⟩
        walk_at "rd"
        refine rd_newL fun b6 H6 hb6 x6 e6 => ?_
        walk_at "rd"
        refine rd_ixL (v := .str k.op) (sl_of e6) (by cases k <;> rfl) ?_
        walk_at "rd"
        refine rd_newL fun b7 H7 hb7 x7 e7 => ?_
        have lu1 := rn_len hu1 ok1 (by omega) hsc
        refine rd_cat (x7 _ _ (x6 _ _ e5)) e7 (by rw [List.length_map, List.length_singleton]; exact Nat.le_of_lt (big20 (by omega))) fun l8 H8 hl8 x8 e8 => ?_
        have x68 := (x6.trans x7).trans x8
        have s8 := s5.ex x68
        have hT8 := sqt_ex x68 (s4.sqt f5 hT4)
        have e8' : H8 l8 = some (.lst ((u1 ++ [k.op]).map V.str)) := by rw [e8, List.map_append] <;> rfl
        walk_at "rd"
        refine rd_ixT hT8 ix2 ?_
        walk_at "rd"
        refine ⟨st, sl, y, sc, d, g2, k.right, last, rfl, by omega, by omega, ok2, hsc, s8, dp_ex x68 _ (s4.dp f5 (fmd_flat g2) (dp_ex x34 _ dy)), fun u2 p9 H9 hu2 e9 f9 s9 => ?_⟩
        have lu2 := rn_len hu2 ok2 (by omega) hsc
        refine rd_cat (s8.strs f9 e8') e9 (by rw [List.length_map, List.length_map, List.length_append, List.length_singleton]; exact Nat.le_of_lt (big20 (by omega))) fun l10 H10 hl10 x10 e10 => ?_
        exact q (u1 ++ k.op :: u2) l10 H10 (.bin hu1 hu2) (by rw [e10]; simp) (((((x12.trans x34).fx.trans f5).ex x68).trans f9).ex x10) (s9.ex x10)
      | qu _ _ => cases hq
      | _ => exact absurd rfl ho
abbrev N_L_words : List Str := ["_law_state_here", "_law_formula_here", "_law_level_here", "_law_last", "_law_kind", "_law_own"]
theorem sc_L_words : FnScope N_L_words ["_law_state_here", "_law_formula_here", "_law_level_here", "_law_last"] (defScope s_L_words) := ⟨rfl, rfl, rfl, by decide +kernel, rfl, by decide +kernel, by decide +kernel⟩
theorem ok_L_words (T : Txt K mg) (F : Fd K d_L_words) (O_L_draw : Ok P w K mg base 1 (He.ga K "_law_draw") ["_law_state_here", "_law_many"] spDraw) (O_L_level : Ok P w K mg base 1 (He.ga K "_law_level") ["_law_formula_here"] (spLevel K))
    (O_L_plain_words : Ok P w K mg base (6 + 3 * n + 2) (He.ga K "_law_plain_words") ["_law_state_here", "_law_formula_here", "_law_last"] (spPlain K (n + 1))) : Ok P w K mg base (6 + 3 * n + 3) (He.ga K "_law_words") ["_law_state_here", "_law_formula_here", "_law_level_here", "_law_last"] (spWords K (n + 1)) := by
  refine ok_mk F sc_L_words (fun _ _ _ _ _ _ us hl => match us, hl with | [_, _, _, _], _ => rfl) (fun vs H Q E h => ?_) (fun f cdv A outer s H vs Q E hr h => ?_)
  · obtain ⟨_, _, _, _, _, _, _, _, rfl, _⟩ := h
    rfl
  obtain ⟨st, sl, v, sc, d, f, l, last, rfl, hdn, hd4, ok, hsc, hS, hd, q⟩ := h
  obtain ⟨a, ys, rfl, hT⟩ := fm_sq hd
  refine ⟨_, (pss_cons (ps_set (i := 4) sc_L_words.nd rfl (Or.inl rfl) (qit K (pv 1) pe_int))
  (pss_cons (ps_set (i := 5) sc_L_words.nd rfl (Or.inl rfl) (qc T gm_L_level O_L_level (hr.mono (by omega)) (pa_cons (pv 1) pa_nil)))
  (Evl.pss_cut (ps_if (PW.pt (pw_or (qtst op_eq (qc T gm_L_draw O_L_draw (hr.mono (by omega)) (pa_cons (pv 0) (pa_cons pe_int pa_nil))) pe_int) (pw_or (qtst op_lt (pv 5) (pv 2)) (pw_or1 (PW.pt (pw_and (qtst (qin K) (pv 4) (pe_lst (pa_cons pe_str (pa_cons pe_str pa_nil)))) (pw_and1 (pt_not (pt_val (pv 3)))))))))) (pss_one (ps_ret (pe_op op_cat (pe_op op_cat (pe_lst (pa_cons pe_str pa_nil)) (qc T gm_L_plain_words O_L_plain_words (hr.mono (by omega)) (pa_cons (pv 0) (pa_cons (pv 1) (pa_cons pe_bl pa_nil))))) (pe_lst (pa_cons pe_str pa_nil))))) pss_nil)
  (pss_one (ps_ret (qc T gm_L_plain_words O_L_plain_words (hr.mono (by omega)) (pa_cons (pv 0) (pa_cons (pv 1) (pa_cons (pv 3) pa_nil))))))))), ?_⟩
  walk_at "rd"
  refine rd_ixT hT ix0 ?_
  walk_at "rd"
  refine ⟨.ref a, f, rfl, hd, fun H1 x1 => ?_⟩
  have s1 := hS.ex x1
  have hd1 := dp_ex x1 _ hd
  walk_at "rd"
  have par : ∀ {D : Ends} {H3 : Hp}, D.rt = Q → Fx st H1 H3 → StX st sl H3 → tRet (tOp rCat (tOp rCat (tLst (tCons (tC (.str "(")) tNil)) (tCl (spPlain K (n + 1)) (tCons (tVar 0) (tCons (tVar 1) (tCons (tC (.bl true)) tNil))))) (tLst (tCons (tC (.str ")")) tNil))) D [some (.ref st), some (.ref a), some (.int (l : Nat)), some (.bl last), some (.str f.kd), some (.int (f.own : Nat))] H3 := fun {D H3} hD f3 s3 => by
    walk_at "rd"
    refine rd_newL fun b H4 hb x4 e4 => ?_
    have s4 := s3.ex x4
    walk_at "rd"
    refine ⟨st, sl, .ref a, sc, d, f, true, rfl, hdn, hd4, ok, hsc, s4, dp_ex x4 _ (s1.dp f3 (fmd_flat f) hd1), fun u p5 H5 hu e5 f5 s5 => ?_⟩
    have lu := rn_len hu ok hd4 hsc
    refine rd_cat (s4.strs f5 (l := ["("]) e4) e5 (by rw [List.length_map, List.length_map, List.length_singleton]; exact Nat.le_of_lt (big20 (by omega))) fun l6 H6 hl6 x6 e6 => ?_
    walk_at "rd"
    refine rd_newL fun b7 H7 hb7 x7 e7 => ?_
    refine rd_cat (x7 _ _ e6) e7 (by rw [List.length_append, List.length_map, List.length_map, List.length_singleton, List.length_singleton]; exact Nat.le_of_lt (big20 (by omega))) fun l8 H8 hl8 x8 e8 => ?_
    rw [hD]
    exact q (("(" : Str) :: (u ++ [(")" : Str)])) l8 H8 (.par hu) (by rw [e8]; simp) (((((x1.fx.trans f3).ex x4).trans f5).ex x6).ex (x7.trans x8)) ((s5.ex x6).ex (x7.trans x8))
  refine rd_cut (fun σ' H' => σ' = [some (.ref st), some (.ref a), some (.int (l : Nat)), some (.bl last), some (.str f.kd), some (.int (f.own : Nat))] ∧ Fx st H1 H' ∧ StX st sl H' ∧ l ≤ f.own ∧ (f.isQ = true → last = true)) ?_ ?_
  · walk_at "rd"
    refine ⟨st, sl, 9, rfl, by decide, by decide, s1, fun j H2 j0 j1 f2 s2 => ?_⟩
    walk_at "rd"
    by_cases h0 : j = 0
    · refine ift (decide_eq_true (congrArg V.int h0)) ?_
      refine ift rfl ?_
      exact par rfl f2 s2
    refine iff' (decide_eq_false fun e => h0 (V.int.inj e)) ?_
    walk_at "rd"
    by_cases h1 : ((f.own : Nat) : Int) < (l : Nat)
    · refine ift (decide_eq_true h1) ?_
      refine ift rfl ?_
      exact par rfl f2 s2
    refine iff' (decide_eq_false h1) ?_
    walk_at "rd"
    refine rd_newL fun b3 H3 hb3 x3 e3 => ?_
    refine rd_inL (xs := qks.map V.str) (sl_of e3) rfl (flat_strs _) ?_
    rw [if_neg Bool.false_ne_true, inV_strs, kd_q]
    walk_at "rd"
    cases hq : f.isQ with
    | false =>
      refine iff' rfl ?_
      refine iff' rfl ?_
      exact rd_next ⟨rfl, f2.ex x3, s2.ex x3, by omega, fun e => by cases e⟩
    | true =>
      refine ift rfl ?_
      walk_at "rd"
      cases last with
      | true =>
        refine iff' rfl ?_
        exact rd_next ⟨rfl, f2.ex x3, s2.ex x3, by omega, fun _ => rfl⟩
      | false =>
        refine ift rfl ?_
        exact par rfl (f2.ex x3) (s2.ex x3)
  rintro σ' H2 ⟨rfl, f2, s2, hl, hlast⟩
  walk_at "rd"
  exact ⟨st, sl, .ref a, sc, d, f, last, rfl, hdn, hd4, ok, hsc, s2, s1.dp f2 (fmd_flat f) hd1, fun u p3 H3 hu e3 f3 s3 => q u p3 H3 (.bare hl hlast hu) e3 ((x1.fx.trans f2).trans f3) s3⟩
end
end Ele
end
section
set_option Elab.async false
set_option linter.all false
set_option maxRecDepth 100000
set_option maxHeartbeats 2000000
namespace Ele
open PySem PySem.Spec PyProof.Rows L2
/-! ### repr, where no guard stands -/
def rRep (K : PySem.W.Frag) : RL := fun xs H Q => ∃ (p : Addr) (d : PyData), xs = [.ref p] ∧ Dp K H (.ref p) d ∧ d.showable = true ∧ d.hasDict = false ∧ d.depth ≤ 60 ∧ d.shown.length ≤ sizeLine ∧ Q (.str d.shown) H
theorem qrepr {X : Cx} (K : PySem.W.Frag) (hg : X.A.guards = some []) (hu : X.A.units + 64 < cLine) (hK : X.K = K := by rfl) : CallR X (.builtin "repr") (rRep K) := by
  subst hK
  intro pins s σ H xs us Q I rx h
  obtain ⟨p, d, rfl, hd, h1, h2, h3, h4, q⟩ := h
  cases rx with
  | cons r1 r2 =>
    cases r2
    obtain ⟨as, rd⟩ := Dp.reads I d _ _ hd r1
    have r1' := r1
    cases (show _ = Value.ref p from r1')
    exact repr_of_reads' rd h1 (fun e => by rw [h2] at e; cases e) hg (by omega) (fun _ _ e => e) (fun h' u tk k => ⟨.str d.shown, H, I.kept k, ⟨u, rfl⟩, q⟩) h4
/-! ### the law's call -/
/-- a def's promise at one place of the stack -/
structure FnAt (Ar : Around) (P : Program) (w : World) (K : PySem.W.Frag) (mg : Str → Option Value) (base : Heap) (f : Addr) (fd : FuncData) (ps : List Str) (sp : Sp) : Prop where
  go : ∀ (out : List Env) (z : Shared) (H : Hp) (ar : Args) (us : List Value) (vs : List V) (Q : VK) (E : XK), Env0 P w K mg base Ar out z H → BindsTo z fd ar (ps.zip us) → Vals vs us → sp vs H Q E → codeAny (model P w) Ar (.call (.ref f) ar) (CR CX0 out P w H z Q E) z
theorem fn_at {P : Program} {w : World} {K : PySem.W.Frag} {mg : Str → Option Value} {base : Heap} {k : Nat} {d : He.DefD} {f : Addr} {fd : FuncData} {N ps : List Str} {sp : Sp} {Ar : Around} (F : FunD K d.name d.qual d.params d.body d.scope [] [] f fd) (S : FnScope N ps d.scope) (room : Room (k + 1) Ar)
    (len : ∀ vs H Q E, sp vs H Q E → vs.length = ps.length)
    (body : ∀ (cv : Value) (out : List Env) (z : Shared) (H : Hp) (vs : List V) (Q : VK) (E : XK), Room k (Ar.deeper (envOfC d.qual d.scope z.heap.objs.size f cv)) → sp vs H Q E →
      ∃ t, PSs (cxOf CX0 P w K mg base N d.qual d.scope f cv Ar out z H E) d.body t ∧ t { nx := fun _ H' => Q .non H', rt := Q } (start N vs) H) : FnAt Ar P w K mg base f fd ps sp := by
  obtain ⟨oc, od, dV, kV, doc, pm, an, cv, ct, osl, rfl, lk, code, _, _⟩ := F.ex
  refine ⟨fun out z H ar us vs Q E env0 bind rv spec => ?_⟩
  have hlen := len _ _ _ _ spec
  have inK : K.In z.heap := env0.mod.kin.keeps fun b o e => (env0.bs b o e).1
  have noLim : z.heap.NoLimit := env0.mod.nolimit.keeps fun b o e => (env0.bs b o e).1
  have kinds : ∀ y ∈ ps.zip us, d.scope.names.lookup y.1 = some .local ∨ (d.scope.names.lookup y.1 = some .cell ∧ ((cellsFrom (z.heap.objs.size + 1) d.scope.names []).lookup y.1).isSome = true) := by
    rintro ⟨nm, v⟩ hy
    rcases S.par nm (List.of_mem_zip hy).1 with loc | cel
    · exact .inl loc
    · exact .inr ⟨cel, PySem.W.cellsFrom_some _ _ _ (.inl cel)⟩
  refine codeAny_call_function room.depth (inK _ _ lk) rfl S.co S.gen rfl (PySem.W.codeRec_of inK code) (bind _ _ _ _ ?_)
  refine wpAny_newFunctionEnv_cells S.kind kinds fun en hen z1 ext => ?_
  subst hen
  refine ⟨noLim.keeps ext.toInCall.keep, codeAny_func ?_⟩
  obtain ⟨t, walk, fin⟩ := body cv out z H vs Q E (room.deeper _) spec
  have J : Inv (cxOf CX0 P w K mg base N d.qual d.scope f cv Ar out z H E) [] (start N vs) H z1 := inv_start S room.hd env0 hlen rv ext
  refine wpAny_mono (walk.run [] z1 (start N vs) H _ J fin) (fun fl z2 hz => ?_) fun e z2 hz => hz
  have done : ∀ {σ' : L2.St} {H' : Hp} {v : V} {u : Value}, Inv (cxOf CX0 P w K mg base N d.qual d.scope f cv Ar out z H E) [] σ' H' z2 → RelV v u → Q v H' → CE out P w H z Q u z2 := by
    intro σ' H' v u L rvu qv
    exact ⟨v, H', L.os, L.bare, L.base, L.hok, rvu, qv⟩
  cases fl with
  | ret u =>
    obtain ⟨v, σ', H', L, rvu, qv⟩ := hz
    exact done L rvu qv
  | next =>
    obtain ⟨σ', H', L, qv⟩ := hz
    exact done (v := V.non) (u := Value.none) L rfl qv
  | brk =>
    obtain ⟨_, _, _, no⟩ := hz
    exact no.elim
  | cont =>
    obtain ⟨_, _, _, no⟩ := hz
    exact no.elim
theorem law_at {P : Program} {w : World} {K : PySem.W.Frag} {mg mb : Str → Option Value} {f p : Addr} {fd : FuncData} {x : Str} {sp : Sp} {z : Shared} {vs : List Value} {ns : List Int}
    (inK : K.In z.heap) (gns : z.heap.Ns mainGlobals mg) (bns : z.heap.Ns builtinsNs mb) (bbt : ∀ x : Str, x ≠ "__name__" → mb x = bootBuiltins x) (nolim : z.heap.NoLimit) (nogen : z.gens = #[])
    (script : z.heap.get? p = some { cls := .type "list", data := .seq vs.toArray }) (scrI : IntsAre vs ns) (few : ns.length ≤ sizeLine)
    (F : ∀ base : Heap, K.In base → base.Ns mainGlobals mg → FnAt callerA P w K mg base f fd [x] sp) (bind : ∀ (s : Shared) (u : Value), BindsTo s fd ⟨[u], []⟩ [(x, u)])
    (spec : ∀ H : Hp, Only H → SqL K H p (ns.map V.int) → sp [.ref p] H (fun v _ => v = .bl true) fun _ _ _ => False) :
    codeAny (model P w) callerA (.call (.ref f) ⟨[.ref p], []⟩) (fun r z' => r = .ok (.ret (.bool true)) ∧ OldK z.heap z'.heap ∧ z'.os = z.os ∧ AllBare z'.gens) z := by
  have rvs := vals_ints scrI
  have lenVs := scrI.length
  have main : ∀ H : Hp, Only H → SqL K H p (ns.map V.int) → HOk P w H z.heap → (∀ b, H b ≠ none → b = p) → (H p ≠ none → K.lookup p = none) →
      codeAny (model P w) callerA (.call (.ref f) ⟨[.ref p], []⟩) (fun r z' => r = .ok (.ret (.bool true)) ∧ OldK z.heap z'.heap ∧ z'.os = z.os ∧ AllBare z'.gens) z := by
    intro H only sq okH hP hKp
    have below : ∀ {b : Addr} {o : Obj}, z.heap.get? b = some o → H b = none → (hidT z.heap H).get? b = some o := fun e n => hidT_get e n
    have noDict : ∀ {b : Addr} {o : Obj} {es : Array DictEntry} {ep : Nat}, z.heap.get? b = some o → o.data = .dict es ep → H b = none := by
      intro b o es ep e dt
      cases q : H b with
      | none => rfl
      | some u =>
        have eb : b = p := hP b (by rw [q]; simp)
        subst eb
        rw [script] at e
        cases e
        cases (show Data.seq vs.toArray _ = Data.dict es ep from dt)
    have nsB : ∀ {b : Addr} {m : Str → Option Value}, z.heap.Ns b m → (hidT z.heap H).Ns b m := fun {b m} ⟨o, es, ep, e, dt, r⟩ => ⟨o, es, ep, below e (noDict e dt), dt, r⟩
    have inKb : K.In (hidT z.heap H) := by
      intro b o e
      refine below (inK b o e) ?_
      cases q : H b with
      | none => rfl
      | some u =>
        have eb : b = p := hP b (by rw [q]; simp)
        subst eb
        rw [hKp (by rw [q]; simp)] at e
        cases e
    have md : Mod K mg (hidT z.heap H) := ⟨inKb, nsB gns, ⟨mb, nsB bns, bbt⟩, let ⟨mc, h1, h2⟩ := nolim; ⟨mc, nsB h1, h2⟩⟩
    have env0 : Env0 P w K mg (hidT z.heap H) callerA [] z H := ⟨rfl, md, fun b o e => of_hidT e, Nat.le_of_eq (hidT_size _ _), trivial, fun b hb => absurd (show b ∈ ([] : List Addr) from hb) List.not_mem_nil, okH, .of_eq nogen⟩
    refine codeAny_mono ((F _ inKb (nsB gns)).go [] z H ⟨[.ref p], []⟩ [.ref p] [.ref p] _ _ env0 (bind z (.ref p)) (.cons rfl .nil) (spec H only sq)) fun r z' out => ?_
    cases r with
    | error e => exact False.elim out
    | ok fl =>
      cases fl with
      | next => exact out.elim
      | brk => exact out.elim
      | cont => exact out.elim
      | ret u =>
        obtain ⟨v, H', os, bare, un, okH', rvu, isT⟩ := out
        have isT' : v = .bl true := isT
        subst isT'
        obtain rfl : u = Value.bool true := rvu
        refine ⟨rfl, OldK.of_keep fun b o e => ?_, os, bare⟩
        cases q : H b with
        | none => exact un.keep b o e q (by intro no; exact absurd (show b ∈ ([] : List Addr) from no) List.not_mem_nil) (by simp)
        | some u =>
          rcases only b with no | ⟨ob, xs, fz⟩
          · rw [q] at no; cases no
          · have fz' := un.frzs b ob _ fz
            obtain ⟨e1, _⟩ := okH b _ fz
            obtain ⟨e2, _⟩ := okH' b _ fz'
            rw [e] at e1
            cases e1
            exact e2
  cases kl : K.lookup p with
  | some o =>
    have e := inK p o kl
    rw [script] at e
    cases e
    refine main (fun _ => none) (fun _ => .inl rfl) (.inr ⟨_, vs.toArray, _, kl, rfl, rfl, rfl, ?_, by simpa using rvs⟩) (fun b u no => ?_) (fun b no => absurd rfl no) fun no => absurd rfl no
    · rw [List.size_toArray, lenVs]; exact few
    · cases (show (none : Option HO) = some u from no)
  | none =>
    refine main (fun b => if b = p then some (.frz { cls := .type "list", data := .seq vs.toArray } (.lst (ns.map V.int))) else none) (fun b => ?_) (.inl (.inr ⟨{ cls := .type "list", data := .seq vs.toArray }, if_pos rfl⟩)) (fun b u e => ?_) (fun b e => ?_) fun _ => kl
    · by_cases hb : b = p
      · exact .inr ⟨_, _, if_pos hb⟩
      · exact .inl (if_neg hb)
    · by_cases hb : b = p
      · cases (if_pos hb).symm.trans e
        subst hb
        exact ⟨script, by rw [List.length_map]; exact few, vs, _, rvs, script⟩
      · cases (if_neg hb).symm.trans e
    · by_cases hb : b = p
      · exact hb
      · exact absurd (if_neg hb) e
theorem walk_at_ {l : PySem.W.OpenLaw} {n : Nat} {q : Program} {loose : List Str} {XP : (Str → Option Value) → Heap → Prop} {YP : World → Heap → Prop} {d : DefRec} {x : Str} (most : l.most = some n) (small : n ≤ sizeLine) (plain : d.params.defaults = [])
    (F : ∀ (w : World) (mg : Str → Option Value) (f : Addr) (h : Heap), YP w h → h.Ns mainGlobals mg → mg d.name = some (.ref f) →
      ∃ (K : PySem.W.Frag) (fd : FuncData) (sp : Sp), K.In h ∧ (∀ (s : Shared) (u : Value), BindsTo s fd ⟨[u], []⟩ [(x, u)]) ∧
        (∀ (H : Hp) (p : Addr) (ns : List Int), ns.length ≤ n → Only H → SqL K H p (ns.map V.int) → sp [.ref p] H (fun v _ => v = .bl true) fun _ _ _ => False) ∧
        ∀ base : Heap, K.In base → base.Ns mainGlobals mg → FnAt callerA l.prog w K mg base f fd [x] sp) : PySem.W.WalkO q loose XP YP l.row.toRowW d [] (fun f vs => PySem.call f vs) := by
  refine Att.attach_call most plain fun w z0 z mg mb f o pm cd doc p vs ns G Y isO isD isC isG obj scrI len gens => ?_
  obtain ⟨K, fd, sp, inK, bind, spec, FA⟩ := F w mg f _ Y G.T.g isG
  exact law_at inK G.T.g G.T.b G.T.builtins G.T.nolimit gens obj scrI (Nat.le_trans len small) FA bind fun H only sq => spec H p ns len only sq
end Ele
end
section
set_option Elab.async false
set_option linter.all false
set_option maxRecDepth 100000
set_option maxHeartbeats 2000000
namespace Ele
open PySem PySem.Spec PyProof.Rows L2
/-! ### what repr shows of data is small -/
structure Sh (B D : Nat) (d : PyData) : Prop where
  show_ : d.showable = true
  noDict : d.hasDict = false
  deep : d.depth ≤ D
  len : d.shown.length ≤ B
theorem Sh.mono {B B' D D' : Nat} {d : PyData} (h : Sh B D d) (hb : B ≤ B') (hd : D ≤ D') : Sh B' D' d := ⟨h.show_, h.noDict, Nat.le_trans h.deep hd, Nat.le_trans h.len hb⟩
theorem sh_str {x : Str} (h : x.length ≤ 20) (hc : ∀ c ∈ tlw x, c < 1114112) : Sh 202 0 (.str x) := by
  refine ⟨by simp [PyData.showable], by simp [PyData.hasDict], by simp [PyData.depth], ?_⟩
  have := StrLaws.reprText_len x fun c hc' => Nat.lt_of_lt_of_le (hc c hc') (by decide)
  simp only [PyData.shown]
  omega
theorem sh_all {B D : Nat} : ∀ ds : List PyData, (∀ d ∈ ds, Sh B D d) → PyData.showableAll ds = true ∧ PyData.hasDictAll ds = false ∧ PyData.depthAll ds ≤ D ∧ piled (PyData.shownAll ds) ≤ ds.length * (B + 2) ∧ (PyData.shownAll ds = [] ↔ ds = [])
  | [], _ => by simp [PyData.showableAll, PyData.hasDictAll, PyData.depthAll, PyData.shownAll, piled]
  | d :: r, h => by
    have h1 := h d List.mem_cons_self
    obtain ⟨a1, a2, a3, a4, a5⟩ := sh_all r fun e he => h e (List.mem_cons_of_mem _ he)
    refine ⟨by simp [PyData.showableAll, h1.show_, a1], by simp [PyData.hasDictAll, h1.noDict, a2], ?_, ?_, by simp [PyData.shownAll]⟩
    · have := h1.deep
      simp only [PyData.depthAll]
      omega
    · have := h1.len
      simp only [PyData.shownAll, piled_cons, List.length_cons, Nat.add_mul]
      omega
theorem join_le (ts : List Str) : (Str.join ", " ts).length ≤ piled ts := by
  cases ts with
  | nil => exact Nat.le_of_eq (by decide +kernel)
  | cons t r =>
    have := join_length_add (t :: r) (by simp)
    omega
theorem sh_tup {B D : Nat} {ds : List PyData} (h : ∀ d ∈ ds, Sh B D d) : Sh (ds.length * (B + 2) + 4) (D + 1) (.tuple ds) := by
  obtain ⟨a1, a2, a3, a4, a5⟩ := sh_all ds h
  refine ⟨by simp only [PyData.showable]; exact a1, by simp only [PyData.hasDict]; exact a2, by simp only [PyData.depth]; omega, ?_⟩
  have := join_le (PyData.shownAll ds)
  simp only [PyData.shown, tupleText]
  rw [add_len, add_len]
  have h1 : (("(" : Str)).length = 1 := by decide +kernel
  have h2 : (((if (PyData.shownAll ds).length == 1 then ",)" else ")" : String) : Str)).length ≤ 2 := by split <;> decide +kernel
  rw [h1]
  omega
theorem sh_lst {B D : Nat} {ds : List PyData} (h : ∀ d ∈ ds, Sh B D d) : Sh (ds.length * (B + 2) + 4) (D + 1) (.list ds) := by
  obtain ⟨a1, a2, a3, a4, a5⟩ := sh_all ds h
  refine ⟨by simp only [PyData.showable]; exact a1, by simp only [PyData.hasDict]; exact a2, by simp only [PyData.depth]; omega, ?_⟩
  have := join_le (PyData.shownAll ds)
  simp only [PyData.shown, listText_eq_join]
  rw [add_len, add_len]
  have h1 : (("[" : Str)).length = 1 := by decide +kernel
  have h2 : (("]" : Str)).length = 1 := by decide +kernel
  rw [h1, h2]
  omega
theorem sh_nm {f : Str} (h : Nm f) : Sh 202 0 (.str f) := sh_str h.2.2.1 fun c hc => wordc_lt (h.2.2.2 c hc)
theorem sh_kw {x : Str} (h : x.length ≤ 20 ∧ ∀ c ∈ tlw x, c < 1114112 := by decide +kernel) : Sh 202 0 (.str x) := sh_str h.1 h.2
theorem sh_var {x : Str} (h : VarOk x) : Sh 202 0 (.str x) := by
  simp only [VarOk, List.mem_cons, List.not_mem_nil, or_false] at h
  rcases h with rfl | rfl | rfl | rfl <;> exact sh_kw
def SB : Nat → Nat
  | 0 => 300
  | n + 1 => 10 * SB n
theorem SB_lo (n : Nat) : 300 ≤ SB n := by
  induction n with
  | zero => exact Nat.le_refl _
  | succ n ih => simp only [SB]; omega
theorem SB_mono {n : Nat} : ∀ m, SB n ≤ SB (n + m)
  | 0 => Nat.le_refl _
  | m + 1 => by
    have := SB_mono (n := n) m
    show SB n ≤ 10 * SB (n + m)
    omega
theorem ds_sh {B D : Nat} : ∀ args : List Tm, (∀ a ∈ args, Sh B D a.d) → ∀ d ∈ Tm.ds args, Sh B D d
  | [], _, d, hd => by cases hd
  | a :: r, h, d, hd => by
    rcases List.mem_cons.mp (show d ∈ a.d :: Tm.ds r from hd) with rfl | hd
    · exact h a List.mem_cons_self
    · exact ds_sh r (fun b hb => h b (List.mem_cons_of_mem _ hb)) d hd
theorem sh_app {n D : Nat} {f : Str} {args : List Tm} (hf : Nm f) (h8 : args.length ≤ 8) (h : ∀ a ∈ args, Sh (SB n) D a.d) : Sh (SB (n + 1)) (D + 1) (Tm.app f args).d := by
  have h0 := SB_lo n
  have h1 : ∀ d ∈ (PyData.str f :: Tm.ds args), Sh (SB n) D d := fun d hd => by
    rcases List.mem_cons.mp hd with rfl | hd
    · exact (sh_nm hf).mono (by omega) (Nat.zero_le _)
    · exact ds_sh args h d hd
  have h2 := sh_tup h1
  rw [List.length_cons, ds_len] at h2
  have h3 : (args.length + 1) * (SB n + 2) ≤ 9 * (SB n + 2) := Nat.mul_le_mul_right _ (by omega)
  simp only [Tm.d]
  exact h2.mono (by simp only [SB]; omega) (Nat.le_refl _)
theorem sh_cst {f : Str} (hf : Nm f) : Sh 300 1 (Tm.app f []).d := by
  have := sh_tup (ds := [PyData.str f]) (B := 202) (D := 0) fun d hd => by
    rw [List.mem_singleton.mp hd]
    exact sh_nm hf
  simp only [Tm.d, Tm.ds]
  exact this.mono (by show 1 * (202 + 2) + 4 ≤ 300; decide) (by decide)
theorem TOk.sh {sc : List Str} (hs : ∀ x ∈ sc, VarOk x) {n : Nat} {t : Tm} (h : TOk sc n t) : Sh (SB n) (n + 1) t.d := by
  induction h with
  | @var n x hx =>
    have := SB_lo n
    simp only [Tm.d]
    exact (sh_var (hs _ hx)).mono (by omega) (Nat.zero_le _)
  | @cst n f hf => exact (sh_cst hf).mono (SB_lo n) (by omega)
  | un hf _ ih => exact sh_app hf (Nat.le_of_ble_eq_true rfl) fun a ha => by rw [List.mem_singleton.mp ha]; exact ih
  | @mu n f args hf _ h8 _ ih =>
    have h1 := sh_app (n := 0) (D := 1) hf h8 ih
    have h2 := SB_mono (n := 1) n
    rw [Nat.add_comm 1 n] at h2
    exact h1.mono h2 (by omega)
def UB : Nat → Nat
  | 0 => 90010
  | n + 1 => 3 * UB n + 10
theorem UB_lo (n : Nat) : 90010 ≤ UB n := by
  induction n with
  | zero => exact Nat.le_refl _
  | succ n ih => simp only [UB]; omega
theorem sh_3 {B D : Nat} {a b c : PyData} (h1 : Sh B D a) (h2 : Sh B D b) (h3 : Sh B D c) : Sh (3 * B + 10) (D + 1) (.tuple [a, b, c]) := by
  have := sh_tup (ds := [a, b, c]) (B := B) (D := D) fun d hd => by
    simp only [List.mem_cons, List.not_mem_nil, or_false] at hd
    rcases hd with rfl | rfl | rfl
    · exact h1
    · exact h2
    · exact h3
  refine this.mono ?_ (Nat.le_refl _)
  show 3 * (B + 2) + 4 ≤ _
  omega
theorem sh_2 {B D : Nat} {a b : PyData} (h1 : Sh B D a) (h2 : Sh B D b) : Sh (3 * B + 10) (D + 1) (.tuple [a, b]) := by
  have := sh_tup (ds := [a, b]) (B := B) (D := D) fun d hd => by
    simp only [List.mem_cons, List.not_mem_nil, or_false] at hd
    rcases hd with rfl | rfl
    · exact h1
    · exact h2
  refine this.mono ?_ (Nat.le_refl _)
  show 2 * (B + 2) + 4 ≤ _
  omega
theorem sh_1 {B D : Nat} {a : PyData} (h1 : Sh B D a) : Sh (3 * B + 10) (D + 1) (.tuple [a]) := by
  have := sh_tup (ds := [a]) (B := B) (D := D) fun d hd => by
    rw [List.mem_singleton.mp hd]
    exact h1
  refine this.mono ?_ (Nat.le_refl _)
  show 1 * (B + 2) + 4 ≤ _
  omega
theorem sh_true_ : Sh 616 1 trueD := sh_1 sh_kw
theorem sh_eq {sc : List Str} (hs : ∀ x ∈ sc, VarOk x) {s : Tm} {d : PyData} (h1 : Sh 30000 3 s.d) (h2 : Sh 30000 3 d) {n : Nat} : Sh (UB n) (n + 4) (.tuple [.str "equal", s.d, d]) :=
  (sh_3 ((sh_kw).mono (by decide) (by decide)) h1 h2).mono (Nat.le_trans (by decide) (UB_lo n)) (by omega)
theorem FOk.sh {sc : List Str} {n : Nat} {f : Fm} (h : FOk sc n f) : (∀ x ∈ sc, VarOk x) → Sh (UB n) (n + 4) f.d := by
  induction h with
  | @tt sc n b =>
    intro _
    have hb : Sh 202 0 (.str (tw b)) := by cases b <;> exact sh_kw
    exact (sh_1 hb).mono (Nat.le_trans (by decide) (UB_lo n)) (by omega)
  | pr0 hf => exact fun hs => sh_eq hs ((sh_cst hf).mono (by decide) (by decide)) (sh_true_.mono (by decide) (by decide))
  | pr1 hf ha => exact fun hs => sh_eq hs ((sh_app hf (Nat.le_of_ble_eq_true rfl) fun a hm => by rw [List.mem_singleton.mp hm]; exact ha.sh hs).mono (by decide) (by decide)) (sh_true_.mono (by decide) (by decide))
  | pr2 hf ha hb => exact fun hs => sh_eq hs ((sh_app hf (Nat.le_of_ble_eq_true rfl) fun a hm => by
      simp only [List.mem_cons, List.not_mem_nil, or_false] at hm
      rcases hm with rfl | rfl
      · exact ha.sh hs
      · exact hb.sh hs).mono (by decide) (by decide)) (sh_true_.mono (by decide) (by decide))
  | eq ha hb => exact fun hs => sh_eq hs ((ha.sh hs).mono (by decide) (by decide)) ((hb.sh hs).mono (by decide) (by decide))
  | @neg sc n f _ ih =>
    intro hs
    have h0 := UB_lo n
    exact sh_2 ((sh_kw).mono (by omega) (by omega)) (ih hs)
  | @bin sc n k f g _ _ i j =>
    intro hs
    have h0 := UB_lo n
    have hb : Sh 202 0 (.str k.nm) := by cases k <;> exact sh_kw
    exact sh_3 (hb.mono (by omega) (by omega)) (i hs) (j hs)
  | @qu sc n q x f vx _ ih =>
    intro hs
    have h0 := UB_lo n
    have hb : Sh 202 0 (.str (qw q)) := by cases q <;> exact sh_kw
    refine sh_3 (hb.mono (by omega) (by omega)) ((sh_var vx).mono (by omega) (by omega)) (ih fun z hz => ?_)
    rcases List.mem_append.mp hz with hz | hz
    · exact hs z hz
    · rw [List.mem_singleton.mp hz]; exact vx
theorem UB_mono {n m : Nat} (h : n ≤ m) : UB n ≤ UB m := by
  induction h with
  | refl => exact Nat.le_refl _
  | step _ ih => simp only [UB]; omega
/-! ### the statements that the law writes -/
structure SF where
  role : Str
  name : Str
  f : Fm
  u : List Str
def SF.stm (s : SF) : Stm := (s.role, s.name, s.f.d)
def SF.w (s : SF) : List Str := s.role :: s.name :: ":" :: (s.u ++ [(".": Str)])
def sws : List SF → List Str
  | [] => []
  | s :: l => s.w ++ sws l
theorem sws_snoc {s : SF} : ∀ l, sws (l ++ [s]) = sws l ++ s.w
  | [] => by simp [sws]
  | t :: l => by simp [sws, sws_snoc l]
structure SOk (s : SF) : Prop where
  role : s.role = ("axiom" : Str) ∨ s.role = ("goal" : Str)
  nm : isName s.name = true
  nr : s.name ∉ reserved
  len : s.name.length ≤ 20
  chars : ∀ c ∈ tlw s.name, wordc c = true
  ok : ∃ d, d ≤ 2 ∧ FOk [] d s.f
  rn : Rn (.w 0 true) s.f s.u
theorem SOk.lex {s : SF} (h : SOk s) : wt s.w ≤ 4300 ∧ ∀ w ∈ s.w, LexW w := by
  obtain ⟨d, hd, ok⟩ := h.ok
  obtain ⟨h1, h2⟩ := form_len ok h.rn
  have h3 := pb_mono hd
  have h4 : pb 2 = 4075 := by decide
  have h5 : s.role.length ≤ 5 := by rcases h.role with e | e <;> rw [e] <;> decide +kernel
  have h6 := h.len
  refine ⟨?_, fun w hw => ?_⟩
  · simp only [SF.w, wt, wt_add]
    rw [ln (":" : Str) (n := 1), ln ("." : Str) (n := 1)]
    omega
  · simp only [SF.w, List.mem_cons, List.mem_append, List.not_mem_nil, or_false] at hw
    rcases hw with rfl | rfl | rfl | hw | rfl
    · rcases h.role with e | e <;> rw [e] <;> exact kw_lex (by decide +kernel)
    · exact .inl ⟨by unfold isW; rw [h.nm] <;> rfl, h.len, h.chars⟩
    · exact sgn
    · exact h2 w hw
    · exact sgn
theorem sws_lex : ∀ l : List SF, (∀ s ∈ l, SOk s) → wt (sws l) ≤ 4300 * l.length ∧ ∀ w ∈ sws l, LexW w
  | [], _ => ⟨Nat.le_refl _, fun w hw => by cases hw⟩
  | s :: l, h => by
    obtain ⟨h1, h2⟩ := (h s List.mem_cons_self).lex
    obtain ⟨h3, h4⟩ := sws_lex l fun t ht => h t (List.mem_cons_of_mem _ ht)
    refine ⟨?_, fun w hw => ?_⟩
    · simp only [sws, wt_add, List.length_cons]
      omega
    · rcases List.mem_append.mp (show w ∈ s.w ++ sws l from hw) with hw | hw
      · exact h2 w hw
      · exact h4 w hw
theorem lex_len {w : Str} (h : LexW w) : w.length ≤ 20 := by
  rcases h with h | h
  · exact h.2.1
  · simp only [signs, List.mem_cons, List.not_mem_nil, or_false] at h
    rcases h with rfl | rfl | rfl | rfl | rfl | rfl | rfl | rfl | rfl | rfl | rfl | rfl <;> decide +kernel
theorem srd_of : ∀ (l done : List SF), (∀ s ∈ l, SOk s) → ((done ++ l).map (·.name)).Nodup → ((done ++ l).map (·.role)).count ("goal" : Str) ≤ 1 → SRd 72 (done.map SF.stm) (sws l ++ [("" : Str)]) (l.map SF.stm)
  | [], done, _, _, _ => .nil
  | s :: l, done, h, hn, hg => by
    have hs := h s List.mem_cons_self
    obtain ⟨d, hd, ok⟩ := hs.ok
    have hh := h_le ok
    have e1 : sws (s :: l) ++ [("" : Str)] = s.role :: s.name :: (":" : Str) :: (s.u ++ ("." : Str) :: (sws l ++ [("" : Str)])) := by simp [sws, SF.w]
    have e2 : done ++ s :: l = (done ++ [s]) ++ l := by simp
    have e3 : (done ++ [s]).map SF.stm = done.map SF.stm ++ [(s.role, s.name, s.f.d)] := by rw [List.map_append] <;> rfl
    have ih := srd_of l (done ++ [s]) (fun t ht => h t (List.mem_cons_of_mem _ ht)) (by rw [← e2]; exact hn) (by rw [← e2]; exact hg)
    rw [e3] at ih
    rw [e1]
    refine .cons hs.role (fun e => ?_) hs.nm hs.nr ?_ rfl (form_reads ok (by omega) hs.rn (by decide +kernel) _) rfl (by omega) ih
    · have e4 : (done.map SF.stm).map (·.1) = done.map (·.role) := by rw [List.map_map] <;> rfl
      rw [e4]
      rw [List.map_append, List.count_append, List.map_cons, e, List.count_cons_self] at hg
      exact List.count_eq_zero.mp (by omega)
    · have e4 : (done.map SF.stm).map (·.2.1) = done.map (·.name) := by rw [List.map_map] <;> rfl
      rw [e4]
      rw [List.map_append, List.map_cons, List.nodup_append] at hn
      exact fun hm => hn.2.2 _ hm _ List.mem_cons_self rfl
theorem SOk.sh {s : SF} (h : SOk s) : Sh 2430400 7 (stD s.stm) := by
  obtain ⟨d, hd, ok⟩ := h.ok
  have h1 := ok.sh fun x hx => by cases hx
  have h2 := UB_mono hd
  have h3 : UB 2 = 810130 := by decide
  have hr : Sh 202 0 (.str s.role) := by rcases h.role with e | e <;> rw [e] <;> exact sh_kw
  have hn : Sh 202 0 (.str s.name) := sh_str h.len fun c hc => wordc_lt (h.chars c hc)
  exact (sh_3 (B := 810130) (D := 6) (hr.mono (by decide) (by decide)) (hn.mono (by decide) (by decide)) (h1.mono (by omega) (by omega))).mono (by decide) (by decide)
theorem sws_sh {l : List SF} (h : ∀ s ∈ l, SOk s) (h3 : l.length ≤ 3) : Sh 8000000 8 (.list ((l.map SF.stm).map stD)) := by
  have h1 := sh_lst (ds := (l.map SF.stm).map stD) (B := 2430400) (D := 7) fun d hd => by
    rw [List.map_map] at hd
    obtain ⟨s, hs, rfl⟩ := List.mem_map.mp hd
    exact (h s hs).sh
  rw [List.length_map, List.length_map] at h1
  exact h1.mono (by omega) (Nat.le_refl _)
end Ele
end
section
set_option Elab.async false
set_option linter.all false
set_option maxRecDepth 100000
set_option maxHeartbeats 2000000
local macro_rules | `(tactic| walk_at "rd") => `(tactic| repeat (first
  | with_reducible refine' Ele.rd_seq ?_
  | with_reducible refine' Ele.rd_asg ?_
  | with_reducible refine' Ele.rd_name ?_
  | with_reducible refine' Ele.rd_op ?_
  | ((with_reducible refine' Ele.rd_var ?hv ?_); (case hv => rfl))
  | with_reducible refine' Ele.rd_c ?_
  | with_reducible refine' Ele.rd_rI0 ?_
  | ((with_reducible refine' Ele.rd_eq ?hs ?_); (case hs => rfl))
  | ((with_reducible refine' Ele.rd_ne ?hs ?_); (case hs => rfl))
  | with_reducible refine' Ele.rd_test ?_
  | with_reducible refine' Ele.rd_k ?_
  | with_reducible refine' Ele.rd_if ?_
  | with_reducible refine' Ele.rd_drop ?_
  | with_reducible refine' Ele.rd_ret ?_
  | with_reducible refine' Ele.rd_retN ?_
  | with_reducible refine' Ele.rd_next ?_
  | with_reducible refine' Ele.rd_brk ?_
  | ((with_reducible refine' Ele.rd_aug ?hs ?_); (case hs => rfl))
  | with_reducible refine' Ele.rd_ipI ?_
  | with_reducible refine' Ele.rd_cons ?_
  | with_reducible refine' Ele.rd_nil ?_
  | with_reducible refine' Ele.rd_cl ?_
  | with_reducible refine' Ele.rd_mk ?_
  | with_reducible refine' Ele.rd_cb ?_
  | with_reducible refine' Ele.rd_tup ?_
  | with_reducible refine' Ele.rd_lst ?_
  | with_reducible refine' Ele.rd_not ?_
  | with_reducible refine' Ele.rd_notV ?_
  | with_reducible refine' Ele.rd_and ?_
  | with_reducible refine' Ele.rd_or ?_
  | with_reducible refine' Ele.rd_andV ?_
  | with_reducible refine' Ele.rd_orV ?_
  | with_reducible refine' Ele.rd_add ?_
  | with_reducible refine' Ele.rd_max ?_
  | with_reducible refine' Ele.rd_int ?_
  | with_reducible refine' Ele.rd_tB ?_
  | with_reducible refine' Ele.rd_un ?_
  | ((with_reducible refine' Ele.rd_lenL ?h ?_); (case h => exact Ele.sl_of (by assumption)))
  | ((with_reducible refine' Ele.rd_lenT ?h ?_); (case h => exact Ele.st_of (by assumption)))
  | ((with_reducible refine' Ele.rd_lenS ?h ?_); (case h => assumption))
  | with_reducible refine' Ele.rd_sl ?_
  | with_reducible refine' Ele.rd_part ?_
  | with_reducible refine' Ele.rd_pi ?_
  | ((with_reducible refine' Ele.rd_slS ?h ?_); (case h => assumption))
  | with_reducible refine' Ele.rd_inC ?_
  | ((with_reducible refine' Ele.rd_ixL ?h ?e ?_); (case h => exact Ele.sl_of (by assumption)); (case e => rfl))
  | with_reducible refine' Ele.rd_forL ?_
  | with_reducible refine' Ele.rd_forS ?_
  | with_reducible refine' Ele.rd_fld ?_
  | with_reducible refine' Ele.rd_mt0 ?_
  | ((with_reducible refine' Ele.rd_row ?hT ?hR ?_); (case hT => assumption); (case hR => assumption))
  | ((with_reducible refine' Ele.rd_at ?hT ?hR ?_); (case hT => assumption); (case hR => assumption))
  | ((with_reducible refine' Ele.rd_opc ?hT ?hR ?_); (case hT => assumption); (case hR => assumption))
  | ((with_reducible refine' Ele.rd_scp ?hT ?hR ?_); (case hT => assumption); (case hR => assumption))
  | ((with_reducible refine' Ele.rd_mt ?hR ?hm ?_); (case hR => assumption); (case hm => decide +kernel))
  | ((with_reducible refine' Ele.rd_word ?hR ?_); (case hR => assumption))
  | ((with_reducible refine' Ele.rd_kind ?hR ?_); (case hR => assumption))
  | ((with_reducible refine' Ele.rd_gtup2 ?h ?hn ?_); (case h => assumption); (case hn => rfl))
  | with_reducible refine' Ele.rd_gcons ?_
  | with_reducible refine' Ele.rd_gnil ?_
  | with_reducible refine' Ele.rd_gsub ?_
  | with_reducible refine' Ele.rd_fldset ?_
  ))
namespace Ele
open PySem PySem.Spec PyProof.Rows L2
def spLaw (K : PySem.W.Frag) : Sp := fun vs H Q _ => ∃ (a : Addr) (ns : List Int), vs = [.ref a] ∧ SqL K H a (ns.map V.int) ∧ ∀ H', Q (.bl true) H'
def nI (i : Nat) : Str := ("n" : Str) ++ (Str.ofString (toString ((0 : Int) + (i : Nat))))
def rI' (i : Nat) : Str := ("r" : Str) ++ (Str.ofString (toString ((0 : Int) + (i : Nat))))
theorem nI_ok : ∀ i, i < 3 → isName (nI i) = true ∧ nI i ∉ reserved ∧ (nI i).length ≤ 20 ∧ (∀ c ∈ tlw (nI i), wordc c = true) ∧ goodH (nI i) = false := by decide +kernel
theorem rI_ok : ∀ i, i < 3 → isName (rI' i) = true ∧ rI' i ∉ reserved ∧ (rI' i).length ≤ 20 ∧ (∀ c ∈ tlw (rI' i), wordc c = true) ∧ goodH (rI' i) = false := by decide +kernel
theorem nr_ne : ∀ i, i < 3 → ∀ j, j < i → nI i ≠ nI j ∧ nI i ≠ rI' j ∧ rI' i ≠ nI j ∧ rI' i ≠ rI' j := by decide +kernel
def NmF (l : List SF) (i : Nat) : Prop := ∀ s ∈ l, goodH s.name = true ∨ ∃ j, j < i ∧ (s.name = nI j ∨ s.name = rI' j)
theorem nI_new {l : List SF} {i : Nat} (h : NmF l i) (hi : i < 3) : nI i ∉ l.map (·.name) := fun hm => by
  obtain ⟨s, hs, e⟩ := List.mem_map.mp hm
  have e : s.name = nI i := e
  rcases h s hs with g | ⟨j, hj, e2 | e2⟩
  · rw [e, (nI_ok i hi).2.2.2.2] at g; cases g
  · exact (nr_ne i hi j hj).1 (e.symm.trans e2)
  · exact (nr_ne i hi j hj).2.1 (e.symm.trans e2)
theorem rI_new {l : List SF} {i : Nat} (h : NmF l i) (hi : i < 3) : rI' i ∉ l.map (·.name) := fun hm => by
  obtain ⟨s, hs, e⟩ := List.mem_map.mp hm
  have e : s.name = rI' i := e
  rcases h s hs with g | ⟨j, hj, e2 | e2⟩
  · rw [e, (rI_ok i hi).2.2.2.2] at g; cases g
  · exact (nr_ne i hi j hj).2.2.1 (e.symm.trans e2)
  · exact (nr_ne i hi j hj).2.2.2 (e.symm.trans e2)
theorem NmF.snoc {l : List SF} {i : Nat} (h : NmF l i) {s : SF} (hs : goodH s.name = true ∨ s.name = nI i ∨ s.name = rI' i) : NmF (l ++ [s]) (i + 1) := fun t ht => by
  rcases List.mem_append.mp ht with ht | ht
  · rcases h t ht with g | ⟨j, hj, e⟩
    · exact .inl g
    · exact .inr ⟨j, by omega, e⟩
  · rw [List.mem_singleton.mp ht]
    rcases hs with g | e
    · exact .inl g
    · exact .inr ⟨i, Nat.lt_succ_self i, e⟩
theorem NmX.mem {nl : Addr} {ns : List Str} {k : Int} {H : Hp} (h : NmX nl ns k H) {j : Int} (h0 : 0 ≤ j) (h1 : j < 6) : ∃ f, f ∈ ns ∧ atI (ns.map V.str ++ [.int k]) j = some (.str f) := by
  have hj : j.toNat < ns.length := by rw [h.six]; omega
  refine ⟨ns[j.toNat], List.getElem_mem hj, at_of (j := j.toNat) (by omega) ?_⟩
  rw [List.getElem?_append_left (by rw [List.length_map]; exact hj), List.getElem?_map, List.getElem?_eq_getElem hj]
  rfl
theorem flat_stm (l : List SF) : flatS (l.map SF.stm) := fun s hs => by
  obtain ⟨t, _, rfl⟩ := List.mem_map.mp hs
  exact fmd_flat t.f
theorem x_ok : ∀ c ∈ tlw "x", wordc c = true := by decide +kernel
/-- among the law's statements -/
def LwW (K : PySem.W.Frag) (st sl nl : Addr) (ns : List Str) (k : Int) (du : Addr) (g : Int) (i : Nat) (σ : L2.St) (H : Hp) : Prop :=
  ∃ (a fv tv pv : V) (wl : Addr) (vs : List V) (x9 x10 x11 : Option V) (l : List SF), σ = [some a, some (.ref st), some (.ref nl), some fv, some tv, some pv, some (.ref wl), some (.ref du), some (.int g), x9, x10, x11, none, none] ∧ StX st sl H ∧ NmX nl ns k H ∧
    H wl = some (.lst ((sws l).map V.str)) ∧ H du = some (.lst vs) ∧ StL K H vs (l.map SF.stm) ∧ wl ≠ du ∧ l.length = i ∧ (∀ s ∈ l, SOk s) ∧ (l.map (·.name)).Nodup ∧ (l.map (·.role)).count ("goal" : Str) ≤ (if g < (i : Int) then 1 else 0) ∧ NmF l i
section
variable {P : Program} {w : World} {K : PySem.W.Frag} {mg : Str → Option Value} {base : Heap}
abbrev N_law : List Str := ["_law_script", "_law_state_here", "_law_names_here", "_law_formula_here", "_law_text", "_law_places", "_law_words_here", "_law_due", "_law_goal", "_law_at", "_law_role", "_law_name", "_law_actual", "_law_statement"]
theorem sc_law : FnScope N_law ["_law_script"] (defScope s_law) := ⟨rfl, rfl, rfl, by decide +kernel, rfl, by decide +kernel, by decide +kernel⟩
theorem at_law (T : Txt K mg) {fd : FuncData} (F : FunD K d_law.name d_law.qual d_law.params d_law.body d_law.scope [] [] (He.ga K "law") fd) (room : Room 85 callerA)
    (O_L_state : Ok P w K mg base 1 (He.ga K "_law_state") ["_law_script"] (spState K)) (O_L_draw : Ok P w K mg base 1 (He.ga K "_law_draw") ["_law_state_here", "_law_many"] spDraw)
    (O_L_names : Ok P w K mg base 3 (He.ga K "_law_names") ["_law_state_here"] spNames) (O_L_formula : Ok P w K mg base 11 (He.ga K "_law_formula") ["_law_state_here", "_law_names_here", "_law_scope", "_law_depth"] (spForm K 5))
    (O_L_words : Ok P w K mg base 21 (He.ga K "_law_words") ["_law_state_here", "_law_formula_here", "_law_level_here", "_law_last"] (spWords K 5)) (O_L_joined : Ok P w K mg base 3 (He.ga K "_law_joined") ["_law_state_here", "_law_words_here"] spJoined)
    (O_read_formula : Ok P w K mg base 83 (He.ga K "read_formula") ["text"] (spReadF K 72)) (O_read_statements : Ok P w K mg base 84 (He.ga K "read_statements") ["text"] (spReadS K 72)) : FnAt callerA P w K mg base (He.ga K "law") fd ["_law_script"] (spLaw K) := by
  refine fn_at (k := 84) F sc_law room (fun vs H Q E h => ?_) (fun cv out z H vs Q E hr h => ?_)
  · obtain ⟨_, _, rfl, _⟩ := h
    rfl
  obtain ⟨a, ns0, rfl, hS0, q⟩ := h
  have hg : (callerA.deeper (envOfC d_law.qual d_law.scope z.heap.objs.size (He.ga K "law") cv)).guards = some [] := rfl
  suffices hs : ∃ t, PSs (cxOf CX0 P w K mg base N_law d_law.qual d_law.scope (He.ga K "law") cv callerA out z H E).nox d_law.body t ∧ t { nx := fun _ H' => Q .non H', rt := Q } (start N_law [.ref a]) H by
    obtain ⟨t, q1, q2⟩ := hs
    exact ⟨t, q1.nox, q2⟩
  refine ⟨_, (pss_cons (ps_set (i := 1) sc_law.nd rfl (Or.inl rfl) (qc T gm_L_state O_L_state (hr.mono (by omega)) (pa_cons (pv 0) pa_nil)))
  (pss_cons (ps_set (i := 2) sc_law.nd rfl (Or.inl rfl) (qc T gm_L_names O_L_names (hr.mono (by omega)) (pa_cons (pv 1) pa_nil)))
  (pss_cons (ps_set (i := 3) sc_law.nd rfl (Or.inl rfl) (qc T gm_L_formula O_L_formula (hr.mono (by omega)) (pa_cons (pv 1) (pa_cons (pv 2) (pa_cons (pe_lst pa_nil) (pa_cons (qc T gm_L_draw O_L_draw (hr.mono (by omega)) (pa_cons (pv 1) (pa_cons pe_int pa_nil))) pa_nil))))))
  (pss_cons (ps_asg (qc T gm_L_joined O_L_joined (hr.mono (by omega)) (pa_cons (pv 1) (pa_cons (qc T gm_L_words O_L_words (hr.mono (by omega)) (pa_cons (pv 1) (pa_cons (pv 3) (pa_cons pe_int (pa_cons pe_bl pa_nil))))) pa_nil))) (qgt K (pgs_cons (pg_name (i := 4) sc_law.nd rfl (Or.inl rfl)) (pgs_cons (pg_name (i := 5) sc_law.nd rfl (Or.inl rfl)) pgs_nil))))
  (pss_cons (ps_if (qtst op_ne (qcb (qrepr K hg hr.units) T fm_repr bl_repr (pa_cons (qc T gm_read_formula O_read_formula (hr.mono (by omega)) (pa_cons (pv 4) pa_nil)) pa_nil)) (qcb (qrepr K hg hr.units) T fm_repr bl_repr (pa_cons (pv 3) pa_nil))) (pss_one (ps_ret pe_bl)) pss_nil)
  (pss_cons (ps_set (i := 6) sc_law.nd rfl (Or.inl rfl) (pe_lst pa_nil))
  (pss_cons (ps_set (i := 7) sc_law.nd rfl (Or.inl rfl) (pe_lst pa_nil))
  (pss_cons (ps_set (i := 8) sc_law.nd rfl (Or.inl rfl) (qc T gm_L_draw O_L_draw (hr.mono (by omega)) (pa_cons (pv 1) (pa_cons pe_int pa_nil))))
  (pss_cons (ps_for PassesOwn.never rfl (pi_range1 rfl (T.free _ fm_range) (pa_cons (qc T gm_L_draw O_L_draw (hr.mono (by omega)) (pa_cons (pv 1) (pa_cons pe_int pa_nil))) pa_nil)) (pg_name (i := 9) sc_law.nd rfl (Or.inl rfl)) (pss_cons (ps_set (i := 10) sc_law.nd rfl (Or.inl rfl) (qil K (pe_lst (pa_cons pe_str (pa_cons pe_str pa_nil))) (qct qintI T fm_int bt_int (pa_cons (qcmp op_eq (pv 9) (pv 8)) pa_nil))))
  (pss_cons (ps_set (i := 11) sc_law.nd rfl (Or.inl rfl) (pe_op qaddS (qil K (pv 2) (pv 9)) (qil K (pe_lst (pa_cons pe_str (pa_cons pe_str pa_nil))) (pe_op op_mul (qc T gm_L_draw O_L_draw (hr.mono (by omega)) (pa_cons (pv 1) (pa_cons pe_int pa_nil))) (qct qintI T fm_int bt_int (pa_cons (qcmp op_lt (qcb qlenS T fm_len bl_len (pa_cons (qil K (pv 2) (pv 9)) pa_nil)) pe_int) pa_nil))))))
  (Evl.pss_cut (ps_if (qtst (qin K) (pv 11) (pe_lc (own := [("_law_statement", 13)]) (g := gName 13) (tt := tYes) rfl sc_law.nd (qpl K (pv 7)) (blkOk_by (own := [("_law_statement", 13)]) (N := N_law) (sc := defScope s_law) (by decide +kernel)) (fun _ _ _ _ _ => pg_name (i := 13) sc_law.nd rfl (Or.inl rfl)) (fun _ _ _ _ _ => pts_nil) (fun _ _ _ _ _ => (qit K (pv 13) pe_int)))) (pss_one (ps_set (i := 11) sc_law.nd rfl (Or.inl rfl) (pe_op qaddS pe_str (qct qstrI T fm_str bt_str (pa_cons (pv 9) pa_nil))))) pss_nil)
  (Evl.pss_cut (ps_if (qtst (qin K) (pv 11) (pe_lst (pa_cons pe_str (pa_cons pe_str (pa_cons pe_str (pa_cons pe_str (pa_cons pe_str (pa_cons pe_str pa_nil)))))))) (pss_one (ps_set (i := 11) sc_law.nd rfl (Or.inl rfl) (pe_op qaddS pe_str (qct qstrI T fm_str bt_str (pa_cons (pv 9) pa_nil))))) pss_nil)
  (pss_cons (ps_set (i := 3) sc_law.nd rfl (Or.inl rfl) (qc T gm_L_formula O_L_formula (hr.mono (by omega)) (pa_cons (pv 1) (pa_cons (pv 2) (pa_cons (pe_lst pa_nil) (pa_cons (qc T gm_L_draw O_L_draw (hr.mono (by omega)) (pa_cons (pv 1) (pa_cons pe_int pa_nil))) pa_nil))))))
  (pss_cons (ps_expr (qbm K mt_append (pv 7) (pa_cons (pe_tup (pa_cons (pv 10) (pa_cons (pv 11) (pa_cons (pv 3) pa_nil)))) pa_nil)))
  (pss_one (ps_set (i := 6) sc_law.nd rfl (Or.inl rfl) (pe_op op_cat (pe_op op_cat (pe_op op_cat (pv 6) (pe_lst (pa_cons (pv 10) (pa_cons (pv 11) (pa_cons pe_str pa_nil))))) (qc T gm_L_words O_L_words (hr.mono (by omega)) (pa_cons (pv 1) (pa_cons (pv 3) (pa_cons pe_int (pa_cons pe_bl pa_nil)))))) (pe_lst (pa_cons pe_str pa_nil))))))))))))
  (pss_cons (ps_asg (qc T gm_L_joined O_L_joined (hr.mono (by omega)) (pa_cons (pv 1) (pa_cons (pv 6) pa_nil))) (qgt K (pgs_cons (pg_name (i := 4) sc_law.nd rfl (Or.inl rfl)) (pgs_cons (pg_name (i := 5) sc_law.nd rfl (Or.inl rfl)) pgs_nil))))
  (pss_cons (ps_set (i := 12) sc_law.nd rfl (Or.inl rfl) (qc T gm_read_statements O_read_statements (hr.mono (by omega)) (pa_cons (pv 4) pa_nil)))
  (pss_one (ps_ret (pe_and (qcb (qisi K) T fm_isinstance bl_isinstance (pa_cons (pv 12) (pa_cons (qty T fm_list bt_list) pa_nil))) (pe_one (qcmp op_eq (qcb (qrepr K hg hr.units) T fm_repr bl_repr (pa_cons (pv 12) pa_nil)) (qcb (qrepr K hg hr.units) T fm_repr bl_repr (pa_cons (pv 7) pa_nil)))))))))))))))))), ?_⟩
  walk_at "rd"
  refine ⟨a, ns0, rfl, hS0, fun st sl H1 x1 hst hsl hS => ?_⟩
  walk_at "rd"
  refine ⟨st, sl, rfl, hS, fun nl ns k H2 h6 hnm hgood hk f2 hS2 hnl => ?_⟩
  have hN2 : NmX nl ns k H2 := ⟨h6, hnm, hk, hnl⟩
  walk_at "rd"
  refine rd_newL fun sc H3 hsc x3 e3 => ?_
  have hS3 := hS2.ex x3
  walk_at "rd"
  refine ⟨st, sl, 5, rfl, by decide, by decide, hS3, fun dd H4 dd0 dd1 f4 hS4 => ?_⟩
  obtain ⟨D, rfl⟩ : ∃ D : Nat, dd = D := ⟨dd.toNat, by omega⟩
  have e4 : H4 sc = some (.lst (([] : List Str).map V.str)) := hS3.strs f4 (l := []) e3
  have hN4 := (hN2.ex x3).fx hS3 f4
  walk_at "rd"
  refine ⟨st, sl, nl, sc, ns, [], k, D, rfl, by omega, by omega, hS4, hN4, e4, by show 0 + D ≤ 100; omega, fun f fv H5 hf df f5 hS5 => ?_⟩
  have hN5 := hN4.fx hS4 f5
  walk_at "rd"
  refine ⟨st, sl, fv, [], D, f, 0, true, rfl, by omega, by omega, hf, (fun x hx => by cases hx), hS5, df, fun u wl H6 hu e6 f6 hS6 => ?_⟩
  have hN6 := hN5.fx hS5 f6
  have df6 := hS5.dp f6 (fmd_flat f) df
  obtain ⟨lu1, lu2⟩ := form_len hf hu
  have lpb : pb D ≤ pb 4 := pb_mono (by omega)
  have lpb4 : pb 4 = 16531 := by decide
  walk_at "rd"
  refine ⟨st, sl, wl, u, rfl, e6, by omega, fun w hw => lex_len (lu2 w hw), hS6, fun pp pl pr t H7 hj f7 hS7 e7 => ?_⟩
  have hN7 := hN6.fx hS6 f7
  have df7 := hS6.dp f7 (fmd_flat f) df6
  have ltx : t.length ≤ 20000 := by
    have h1 := jt_len hj
    have h2 := wt_add u [("" : Str)]
    have h3 : wt [("" : Str)] = 14 := by decide +kernel
    omega
  walk_at "rd"
  refine ⟨t, u, f.h, f.d, rfl, ltx, joined_lx hj lu2, form_reads hf (by omega) hu (by decide +kernel) [], by have := h_le hf; omega, fun v8 H8 x8 d8 => ?_⟩
  have hsh := hf.sh fun x hx => by cases hx
  have hub : UB D ≤ UB 4 := UB_mono (by omega)
  have hub4 : UB 4 = 7291210 := by decide
  have hlen : f.d.shown.length ≤ sizeLine := by
    have h1 := hsh.len
    have h2 : (7291210 : Nat) ≤ sizeLine := by decide
    omega
  obtain ⟨p8, y8, rfl, _⟩ := fm_sq d8
  obtain ⟨p7, y7, rfl, _⟩ := fm_sq df7
  have hdeep : f.d.depth ≤ 60 := by have := hsh.deep; omega
  walk_at "rd"
  refine ⟨p8, f.d, rfl, d8, hsh.show_, hsh.noDict, hdeep, hlen, ?_⟩
  walk_at "rd"
  refine ⟨p7, f.d, rfl, dp_ex x8 _ df7, hsh.show_, hsh.noDict, hdeep, hlen, ?_⟩
  walk_at "rd"
  refine iff' (nF rfl) ?_
  have hS8 := hS7.ex x8
  have hN8 := hN7.ex x8
  walk_at "rd"
  refine rd_newL fun wl H9 hwl x9 e9 => ?_
  walk_at "rd"
  refine rd_newL fun du H10 hdu x10 e10 => ?_
  have hS9 := hS8.ex x9
  have hS10 := hS9.ex x10
  have hN9 := hN8.ex x9
  have hN10 := hN9.ex x10
  have nwd : wl ≠ du := ne_of_none e9 hdu
  obtain ⟨nd1, nd2⟩ := hS9.fresh hdu
  have nnd : nl ≠ du := ne_of_none hN9.obj hdu
  walk_at "rd"
  refine ⟨st, sl, 5, rfl, by decide, by decide, hS10, fun g H11 g0 g1 f11 hS11 => ?_⟩
  have hN11 := hN10.fx hS10 f11
  have e11 : H11 du = some (.lst []) := f11 _ _ nd1 e10
  have e11w : H11 wl = some (.lst (([] : List Str).map V.str)) := hS10.strs f11 (l := []) (x10 _ _ e9)
  walk_at "rd"
  refine ⟨.ref st, rfl, st, sl, 4, rfl, by decide, by decide, hS11, fun m H12 m0 m1 f12 hS12 => ?_⟩
  obtain ⟨M, rfl⟩ : ∃ M : Nat, m = M := ⟨m.toNat, by omega⟩
  have hM : M ≤ 3 := by omega
  refine ⟨_, rfl, by omega, by omega, for_range (lo := 0) (n := M) (LwW K st sl nl ns k du g) ⟨.ref a, .ref p7, .str t, .ref pl, wl, [], none, none, none, [], rfl, hS12, hN11.fx hS11 f12, hS11.strs f12 (l := []) e11w, f12 _ _ nd1 e11, .nil, nwd, rfl, (fun s hs => by cases hs), .nil, Nat.zero_le _, (fun s hs => by cases hs)⟩ ?_ ?_⟩
  · rintro i σ H13 hi ⟨a13, fv13, tv13, pv13, wl, vs, y9, y10, y11, l, rfl, hS13, hN13, ew, ed, dl, nwd, hl, hok, hnd, hct, hnf⟩
    have hi3 : i < 3 := by omega
    have lg : ((0 : Int) + (i : Nat)).natAbs.log2 < 1920 := by
      have : ∀ i, i < 3 → ((0 : Int) + (i : Nat)).natAbs.log2 < 1920 := by decide
      exact this i hi3
    have fl := flat_stm l
    obtain ⟨nm, hnmm, enm⟩ := hN13.mem (j := (0 : Int) + (i : Nat)) (by omega) (by omega)
    have nmO := hnm _ hnmm
    have hfl : nm.length ≤ sizeLine := Nat.le_trans nmO.2.2.1 (by decide)
    walk_at "rd"
    refine rd_newL fun b14 H14 hb14 x14 e14 => ?_
    walk_at "rd"
    refine rd_intB ?_
    obtain ⟨role, hrole, erole⟩ : ∃ role : Str, role = (if ((0 : Int) + (i : Nat)) = g then ("goal" : Str) else "axiom") ∧ atI [V.str "axiom", .str "goal"] (if decide (V.int ((0 : Int) + (i : Nat)) = V.int g) then 1 else 0) = some (.str role) := by
      by_cases h0 : ((0 : Int) + (i : Nat)) = g
      · exact ⟨_, rfl, by rw [if_pos h0, if_pos (decide_eq_true (congrArg V.int h0))] <;> rfl⟩
      · exact ⟨_, rfl, by rw [if_neg h0, if_neg (by rw [decide_eq_false fun e => h0 (V.int.inj e)]; exact Bool.false_ne_true)] <;> rfl⟩
    refine rd_ixL (sl_of e14) erole ?_
    have hS14 := hS13.ex x14
    have hN14 := hN13.ex x14
    walk_at "rd"
    refine rd_ixL (sl_of hN14.obj) enm ?_
    walk_at "rd"
    refine rd_newL fun b15 H15 hb15 x15 e15 => ?_
    have hS15 := hS14.ex x15
    have hN15 := hN14.ex x15
    walk_at "rd"
    refine ⟨st, sl, 2, rfl, by decide, by decide, hS15, fun j16 H16 j160 j161 f16 hS16 => ?_⟩
    have hN16 := hN15.fx hS15 f16
    have e16 := f16 _ _ (hS15.apart e15 (fun b r z => by cases z)) e15
    walk_at "rd"
    refine rd_ixL (sl_of hN16.obj) enm ?_
    walk_at "rd"
    refine rd_intB ?_
    refine rd_rI (.inr ?_) ?_
    · split <;> omega
    obtain ⟨ext, hext, eext⟩ : ∃ ext : Str, (ext = "" ∨ (ext = "x" ∧ nm.length < 20)) ∧ atI [V.str "", .str "x"] (j16 * (if decide (((nm.length : Nat) : Int) < 20) then 1 else 0)) = some (.str ext) := by
      have h01 : j16 = 0 ∨ j16 = 1 := by omega
      by_cases h0 : ((nm.length : Nat) : Int) < 20
      · rw [if_pos (decide_eq_true h0)]
        rcases h01 with rfl | rfl
        · exact ⟨"", .inl rfl, rfl⟩
        · exact ⟨"x", .inr ⟨rfl, by omega⟩, rfl⟩
      · rw [if_neg (by rw [decide_eq_false h0]; exact Bool.false_ne_true)]
        rcases h01 with rfl | rfl
        · exact ⟨"", .inl rfl, rfl⟩
        · exact ⟨"", .inl rfl, rfl⟩
    refine rd_ixL (sl_of e16) eext ?_
    have lext : ext.length ≤ 1 ∧ nm.length + ext.length ≤ 20 := by
      rcases hext with rfl | ⟨rfl, h⟩
      · exact ⟨by decide +kernel, by have h20 := nmO.2.2.1; have : (Str.ofString "").length = 0 := (by decide +kernel); omega⟩
      · exact ⟨by decide +kernel, by have : (Str.ofString "x").length = 1 := (by decide +kernel); omega⟩
    refine rd_addS (Nat.le_trans lext.2 (by decide)) ?_
    have n0a : isName (nm ++ ext) = true := isName_add nmO.1
    have n0b : (nm ++ ext).length ≤ 20 := by rw [add_len]; exact lext.2
    have n0c : ∀ c ∈ tlw (nm ++ ext), wordc c = true := fun c hc => by
      rw [tlw_add] at hc
      rcases List.mem_append.mp hc with hc | hc
      · exact nmO.2.2.2 c hc
      · rcases hext with rfl | ⟨rfl, _⟩
        · cases hc
        · exact x_ok c hc
    have n0d : goodH (nm ++ ext) = true := goodH_add (hgood _ hnmm)
    have f13 : Fx st H13 H16 := ((x14.trans x15).fx).trans f16
    have ew16 := hS13.strs f13 ew
    have ed16 : H16 du = some (.lst vs) := f13 _ _ nd1 ed
    have dl16 := dl.fx f13 hS13.noT hS13.noF fl
    walk_at "rd"
    refine rd_cut (fun σ' H' => ∃ nm1 : Str, σ' = [some a13, some (.ref st), some (.ref nl), some fv13, some tv13, some pv13, some (.ref wl), some (.ref du), some (.int g), some (.int ((0 : Int) + (i : Nat))), some (.str role), some (.str nm1), none, none] ∧ Ex H16 H' ∧
      (isName nm1 = true ∧ nm1.length ≤ 20 ∧ (∀ c ∈ tlw nm1, wordc c = true)) ∧ nm1 ∉ l.map (·.name) ∧ (goodH nm1 = true ∨ nm1 = nI i)) ?_ ?_
    · walk_at "rd"
      refine rd_lcIx (i := 7) (j := 13) (k := 1) rfl rfl ed16 (dl16.item (by decide)) (by show 13 < 14; decide) (by rw [dl16.len, List.length_map]; exact big20 (by omega)) fun nb H17 hnb x17 e17 => ?_
      rw [dl16.names] at e17
      refine rd_inL (sl_of e17) rfl (flat_strs _) ?_
      have en : (l.map SF.stm).map (·.2.1) = l.map (·.name) := by rw [List.map_map] <;> rfl
      rw [if_neg Bool.false_ne_true, inV_strs, en]
      walk_at "rd"
      by_cases h1 : (nm ++ ext) ∈ l.map (·.name)
      · refine ift (decide_eq_true h1) ?_
        walk_at "rd"
        refine ⟨_, rfl, lg, ?_⟩
        have lz := (nI_ok i hi3).2.2.1
        unfold nI at lz
        rw [add_len] at lz
        refine rd_addS (Nat.le_trans lz (by decide)) ?_
        walk_at "rd"
        exact ⟨nI i, rfl, x17, ⟨(nI_ok i hi3).1, (nI_ok i hi3).2.2.1, (nI_ok i hi3).2.2.2.1⟩, nI_new hnf hi3, .inr rfl⟩
      · refine iff' (decide_eq_false h1) ?_
        exact rd_next ⟨nm ++ ext, rfl, x17, ⟨n0a, n0b, n0c⟩, h1, .inl n0d⟩
    rintro σ' H17 ⟨nm1, rfl, x17, ⟨n1a, n1b, n1c⟩, n1d, n1e⟩
    refine rd_cut (fun σ' H' => ∃ nm2 : Str, σ' = [some a13, some (.ref st), some (.ref nl), some fv13, some tv13, some pv13, some (.ref wl), some (.ref du), some (.int g), some (.int ((0 : Int) + (i : Nat))), some (.str role), some (.str nm2), none, none] ∧ Ex H16 H' ∧
      (isName nm2 = true ∧ nm2.length ≤ 20 ∧ (∀ c ∈ tlw nm2, wordc c = true)) ∧ nm2 ∉ l.map (·.name) ∧ (goodH nm2 = true ∨ nm2 = nI i ∨ nm2 = rI' i) ∧ nm2 ∉ reserved) ?_ ?_
    · walk_at "rd"
      refine rd_newL fun b18 H18 hb18 x18 e18 => ?_
      refine rd_inL (xs := reserved.map V.str) (sl_of e18) rfl (flat_strs _) ?_
      rw [if_neg Bool.false_ne_true, inV_strs]
      walk_at "rd"
      by_cases h1 : nm1 ∈ reserved
      · refine ift (decide_eq_true h1) ?_
        walk_at "rd"
        refine ⟨_, rfl, lg, ?_⟩
        have lz := (rI_ok i hi3).2.2.1
        unfold rI' at lz
        rw [add_len] at lz
        refine rd_addS (Nat.le_trans lz (by decide)) ?_
        walk_at "rd"
        exact ⟨rI' i, rfl, x17.trans x18, ⟨(rI_ok i hi3).1, (rI_ok i hi3).2.2.1, (rI_ok i hi3).2.2.2.1⟩, rI_new hnf hi3, .inr (.inr rfl), (rI_ok i hi3).2.1⟩
      · refine iff' (decide_eq_false h1) ?_
        exact rd_next ⟨nm1, rfl, x17.trans x18, ⟨n1a, n1b, n1c⟩, n1d, n1e.imp id .inl, h1⟩
    rintro σ' H18 ⟨nm2, rfl, x18, ⟨n2a, n2b, n2c⟩, n2d, n2e, n2f⟩
    have hS18 := hS16.ex x18
    have hN18 := hN16.ex x18
    have ew18 := x18 _ _ ew16
    have ed18 := x18 _ _ ed16
    have dl18 := dl16.ex x18
    walk_at "rd"
    refine rd_newL fun sc H19 hsc19 x19 e19 => ?_
    have hS19 := hS18.ex x19
    walk_at "rd"
    refine ⟨st, sl, 3, rfl, by decide, by decide, hS19, fun dd H20 dd0 dd1 f20 hS20 => ?_⟩
    obtain ⟨D, rfl⟩ : ∃ D : Nat, dd = D := ⟨dd.toNat, by omega⟩
    have e20 : H20 sc = some (.lst (([] : List Str).map V.str)) := hS19.strs f20 (l := []) e19
    have hN20 := (hN18.ex x19).fx hS19 f20
    walk_at "rd"
    refine ⟨st, sl, nl, sc, ns, [], k, D, rfl, by omega, by omega, hS20, hN20, e20, by show 0 + D ≤ 100; omega, fun φ fv H21 hφ dφ f21 hS21 => ?_⟩
    have hN21 := hN20.fx hS20 f21
    have f18 : Fx st H18 H21 := (x19.fx.trans f20).trans f21
    have ew21 := hS18.strs f18 ew18
    have ed21 : H21 du = some (.lst vs) := f18 _ _ nd1 ed18
    have dl21 := dl18.fx f18 hS18.noT hS18.noF fl
    walk_at "rd"
    refine rd_bm rfl ed21 ?_
    walk_at "rd"
    refine rd_newT fun tp H22 htp x22 e22 => ?_
    walk_at "rd"
    have lvs : vs.length ≤ 3 := by rw [dl21.len, List.length_map]; omega
    refine rd_app (x22 _ _ ed21) (big20 (by omega)) ?_
    have hS22 := hS21.ex x22
    have hN22 := hN21.ex x22
    have ed22 := x22 _ _ ed21
    have nt : ∀ xs, H22 du ≠ some (.tup xs) := fun xs e => by rw [ed22] at e; cases e
    have nf : ∀ o u, H22 du ≠ some (.frz o u) := fun xs u e => by rw [ed22] at e; cases e
    have fl2 : flatS (l.map SF.stm ++ [(role, nm2, φ.d)]) := fun s hs => by
      rcases List.mem_append.mp hs with hs | hs
      · exact fl s hs
      · rw [List.mem_singleton.mp hs]
        exact fmd_flat φ
    have dl23 := ((dl21.ex x22).snoc (s := (role, nm2, φ.d)) e22 (dp_ex x22 _ dφ)).fx (r := du) (H' := upd H22 du (.lst (vs ++ [.ref tp]))) Fx.set nt nf fl2
    have hS23 : StX st sl (upd H22 du (.lst (vs ++ [.ref tp]))) := hS22.mut nd1 nd2
    have hN23 : NmX nl ns k (upd H22 du (.lst (vs ++ [.ref tp]))) := hN22.mut nnd
    have dφ23 := dp_fx (K := K) (v := fv) nt nf (Fx.set (o := .lst (vs ++ [.ref tp]))) φ.d (fmd_flat φ) (dp_ex x22 _ dφ)
    have ed23 : upd H22 du (.lst (vs ++ [.ref tp])) du = some (.lst (vs ++ [.ref tp])) := upd_same
    have ew23 : upd H22 du (.lst (vs ++ [.ref tp])) wl = some (.lst ((sws l).map V.str)) := by rw [upd_ne nwd]; exact x22 _ _ ew21
    generalize upd H22 du (.lst (vs ++ [.ref tp])) = H23 at *
    have lsw := (sws_lex l hok).1
    have lsl := len_wt (sws l)
    walk_at "rd"
    refine rd_newL fun b24 H24 hb24 x24 e24 => ?_
    refine rd_cat (x24 _ _ ew23) e24 (by rw [List.length_map]; exact Nat.le_of_lt (big20 (show _ ≤ 200000 by simp only [List.length_cons, List.length_nil]; omega))) fun c25 H25 hc25 x25 e25 => ?_
    have x2425 := x24.trans x25
    have hS25 := hS23.ex x2425
    have e25' : H25 c25 = some (.lst ((sws l ++ [role, nm2, ":"]).map V.str)) := by rw [e25, List.map_append] <;> rfl
    walk_at "rd"
    refine ⟨st, sl, fv, [], D, φ, 0, true, rfl, by omega, by omega, hφ, (fun x hx => by cases hx), hS25, dp_ex x2425 _ dφ23, fun u26 p26 H26 hu26 e26 f26 hS26 => ?_⟩
    have lu26 := rn_len hu26 hφ (by omega) (fun x hx => by cases hx)
    have sok : SOk ⟨role, nm2, φ, u26⟩ := by
      refine ⟨?_, n2a, n2f, n2b, n2c, ⟨D, by omega, hφ⟩, hu26⟩
      show role = _ ∨ role = _
      rw [hrole]
      split
      · exact .inr rfl
      · exact .inl rfl
    refine rd_cat (hS25.strs f26 e25') e26 (by rw [List.length_map, List.length_map, List.length_append]; exact Nat.le_of_lt (big20 (show _ ≤ 200000 by simp only [List.length_cons, List.length_nil]; omega))) fun c27 H27 hc27 x27 e27 => ?_
    walk_at "rd"
    refine rd_newL fun b28 H28 hb28 x28 e28 => ?_
    refine rd_cat (x28 _ _ e27) e28 (by rw [List.length_append, List.length_map, List.length_map, List.length_append]; exact Nat.le_of_lt (big20 (show _ ≤ 200000 by simp only [List.length_cons, List.length_nil]; omega))) fun c29 H29 hc29 x29 e29 => ?_
    walk_at "rd"
    have x2729 := (x27.trans x28).trans x29
    have f23 : Fx st H23 H29 := (x2425.fx.trans f26).ex x2729
    have ed29 : H29 du = some (.lst (vs ++ [.ref tp])) := f23 _ _ nd1 ed23
    have em : (l ++ [(⟨role, nm2, φ, u26⟩ : SF)]).map SF.stm = l.map SF.stm ++ [(role, nm2, φ.d)] := by rw [List.map_append] <;> rfl
    refine ⟨a13, fv, tv13, pv13, c29, vs ++ [.ref tp], some (.int ((0 : Int) + (i : Nat))), some (.str role), some (.str nm2), l ++ [⟨role, nm2, φ, u26⟩], rfl, hS26.ex x2729, ((hN23.ex x2425).fx hS25 f26).ex x2729, ?_, ed29, ?_, ?_, ?_, ?_, ?_, ?_, ?_⟩
    · rw [e29, sws_snoc]
      simp [SF.w]
    · rw [em]
      exact dl23.fx f23 hS23.noT hS23.noF fl2
    · intro e
      rw [e] at hc29
      exact absurd (x28 _ _ (x27 _ _ (f26 _ _ nd1 (x2425 _ _ ed23)))) (by rw [hc29]; exact fun z => by cases z)
    · rw [List.length_append, hl] <;> rfl
    · intro s hs
      rcases List.mem_append.mp hs with hs | hs
      · exact hok s hs
      · rw [List.mem_singleton.mp hs]; exact sok
    · rw [List.map_append, List.nodup_append]
      refine ⟨hnd, by simp, fun x hx y hy e => ?_⟩
      rw [List.map_singleton, List.mem_singleton] at hy
      subst hy
      exact n2d (e ▸ hx)
    · rw [List.map_append, List.count_append]
      show _ + List.count ("goal" : Str) [role] ≤ _
      have hag : ("axiom" : Str) ≠ "goal" := by decide +kernel
      by_cases h0 : ((0 : Int) + (i : Nat)) = g
      · rw [hrole, if_pos h0, List.count_singleton_self]
        rw [if_neg (by omega)] at hct
        rw [if_pos (by omega)]
        omega
      · have : List.count ("goal" : Str) [role] = 0 := by
          rw [hrole, if_neg h0]
          exact List.count_eq_zero.mpr fun hm => hag (List.mem_singleton.mp hm).symm
        rw [this]
        by_cases h1 : g < (i : Int)
        · rw [if_pos h1] at hct
          rw [if_pos (by omega)]
          omega
        · rw [if_neg h1] at hct
          omega
    · exact hnf.snoc n2e
  · rintro σ H13 ⟨a13, fv13, tv13, pv13, wl, vs, y9, y10, y11, l, rfl, hS13, hN13, ew, ed, dl, nwd, hl, hok, hnd, hct, hnf⟩
    obtain ⟨lw1, lw2⟩ := sws_lex l hok
    walk_at "rd"
    refine ⟨st, sl, wl, sws l, rfl, ew, by omega, fun w hw => lex_len (lw2 w hw), hS13, fun pp pl2 pr2 t2 H14 hj2 f14 hS14 e14 => ?_⟩
    have ltx2 : t2.length ≤ 20000 := by
      have h1 := jt_len hj2
      have h2 := wt_add (sws l) [("" : Str)]
      have h3 : wt [("" : Str)] = 14 := by decide +kernel
      omega
    have ed14 : H14 du = some (.lst vs) := f14 _ _ nd1 ed
    have dl14 := dl.fx f14 hS13.noT hS13.noF (flat_stm l)
    walk_at "rd"
    refine ⟨t2, sws l, l.map SF.stm, rfl, ltx2, joined_lx hj2 lw2, srd_of l [] hok hnd (by
      refine Nat.le_trans hct ?_
      split <;> omega), by rw [List.length_map]; omega, fun p15 vs15 H15 x15 e15 d15 => ?_⟩
    have shl := sws_sh hok (by omega)
    have hlen2 : (PyData.list ((l.map SF.stm).map stD)).shown.length ≤ sizeLine := Nat.le_trans shl.len (by decide)
    have hdeep2 : (PyData.list ((l.map SF.stm).map stD)).depth ≤ 60 := Nat.le_trans shl.deep (by decide)
    walk_at "rd"
    refine ⟨.ref p15, .ty "list", .type "list", .type "list", true, rfl, .ty _, .base (.lst e15), kit_ty (by decide +kernel), ?_⟩
    refine ⟨true, rfl, ift rfl ?_⟩
    walk_at "rd"
    refine ⟨p15, _, rfl, .lst (sl_of e15) d15, shl.show_, shl.noDict, hdeep2, hlen2, ?_⟩
    walk_at "rd"
    refine ⟨du, _, rfl, .lst (sl_of (x15 _ _ ed14)) (dl14.ex x15).dps, shl.show_, shl.noDict, hdeep2, hlen2, ?_⟩
    walk_at "rd"
    rw [dT rfl]
    exact q _
end
end Ele
end
set_option Elab.async false
set_option linter.all false
set_option maxRecDepth 100000
set_option maxHeartbeats 2000000
namespace Ele
open PySem PySem.Spec PyProof.Rows L2
section
variable {P : Program} {w : World} {K : PySem.W.Frag} {mg : Str → Option Value} {base : Heap}
theorem mf (i : Nat) {d : He.DefD} (h : fn[i]? = some d) : d ∈ fn := List.mem_of_getElem? h
theorem low_of (T : Txt K mg) (D : ∀ d ∈ fn, Fd K d) : Low P w K mg base := by
  have O_word : Ok P w K mg base 1 (mth K "word") ["self"] (spWord K) := ok_word T (D _ (mf 5 rfl))
  have O_kind : Ok P w K mg base 1 (mth K "kind") ["self"] (spKind K) := ok_kind T (D _ (mf 6 rfl))
  exact ⟨O_word, O_kind, ok_skip T (D _ (mf 7 rfl)) O_word O_kind, ok_opening T (D _ (mf 8 rfl)), ok_closed T (D _ (mf 9 rfl)), ok_next_symbol T (D _ (mf 10 rfl)) O_word O_kind, ok_next_variable T (D _ (mf 13 rfl)) O_word, ok_end T (D _ (mf 11 rfl)) O_kind⟩
theorem nonePF (K : PySem.W.Frag) (tg : Tg) (h : ∀ sc o ts hh f ts', ¬ PF 0 tg sc o ts hh f ts') : noneSp (spF K 0 tg) := fun vs H Q E q => by
  obtain ⟨_, _, _, _, _, _, _, _, _, _, p, _⟩ := q
  exact h _ _ _ _ _ _ p
theorem at_every (T : Txt K mg) (D : ∀ d ∈ fn, Fd K d) (L : Low P w K mg base) : ∀ n, At_ P w K mg base n
  | 0 => ⟨none_term (D _ (mf 12 rfl)),
    ok_none (D d_m_atom (mf 14 rfl)) (fun _ _ _ _ _ _ us hl => match us, hl with | [_], _ => rfl) (nonePF K _ fun _ _ _ _ _ _ p => by cases p),
    ok_none (D d_m_quantified (mf 15 rfl)) (fun _ _ _ _ _ _ us hl => match us, hl with | [_], _ => rfl) (nonePF K _ fun _ _ _ _ _ _ p => by cases p),
    ok_none (D d_m_unit (mf 16 rfl)) (fun _ _ _ _ _ _ us hl => match us, hl with | [_], _ => rfl) (nonePF K _ fun _ _ _ _ _ _ p => by cases p),
    ok_none (D d_m_conjunction (mf 17 rfl)) (fun _ _ _ _ _ _ us hl => match us, hl with | [_], _ => rfl) (nonePF K _ fun _ _ _ _ _ _ p => by cases p),
    ok_none (D d_m_disjunction (mf 18 rfl)) (fun _ _ _ _ _ _ us hl => match us, hl with | [_], _ => rfl) (nonePF K _ fun _ _ _ _ _ _ p => by cases p),
    ok_none (D d_m_implication (mf 19 rfl)) (fun _ _ _ _ _ _ us hl => match us, hl with | [_], _ => rfl) (nonePF K _ fun _ _ _ _ _ _ p => by cases p),
    ok_none (D d_m_formula (mf 20 rfl)) (fun _ _ _ _ _ _ us hl => match us, hl with | [_], _ => rfl) (nonePF K _ fun _ _ _ _ _ _ p => by cases p)⟩
  | n + 1 =>
    have A := at_every T D L n
    ⟨ok_next_term T (D _ (mf 12 rfl)) L.word L.kind L.skip L.opening L.closed L.symbol L.variable_ A.term, ok_atom T L A (D _ (mf 14 rfl)), ok_quantified T L A (D _ (mf 15 rfl)), ok_unit T L A (D _ (mf 16 rfl)), ok_conjunction T L A (D _ (mf 17 rfl)), ok_disjunction T L A (D _ (mf 18 rfl)), ok_implication T L A (D _ (mf 19 rfl)), ok_formula T L A (D _ (mf 20 rfl))⟩
theorem tree_all (T : Txt K mg) (D : ∀ d ∈ fn, Fd K d) (O_L_draw : Ok P w K mg base 1 (He.ga K "_law_draw") ["_law_state_here", "_law_many"] spDraw) : ∀ n, Ok P w K mg base (2 + n) (He.ga K "_law_ftree") ["_law_state_here", "_law_names_here", "_law_scope", "_law_depth"] (spTree K n)
  | 0 => ok_none (D d_L_ftree (mf 31 rfl)) (fun _ _ _ _ _ _ us hl => match us, hl with | [_, _, _, _], _ => rfl) fun vs H Q E q => by
    obtain ⟨_, _, _, _, _, _, _, _, _, h, _⟩ := q
    exact absurd h (Nat.not_lt_zero _)
  | n + 1 => ok_L_ftree T (D _ (mf 31 rfl)) O_L_draw (tree_all T D O_L_draw n)
theorem form_all (T : Txt K mg) (D : ∀ d ∈ fn, Fd K d) (O_L_draw : Ok P w K mg base 1 (He.ga K "_law_draw") ["_law_state_here", "_law_many"] spDraw) (O_L_atom : Ok P w K mg base 6 (He.ga K "_law_atom") ["_law_state_here", "_law_names_here", "_law_scope"] (spAtom K)) : ∀ n, Ok P w K mg base (6 + n) (He.ga K "_law_formula") ["_law_state_here", "_law_names_here", "_law_scope", "_law_depth"] (spForm K n)
  | 0 => ok_none (D d_L_formula (mf 33 rfl)) (fun _ _ _ _ _ _ us hl => match us, hl with | [_, _, _, _], _ => rfl) fun vs H Q E q => by
    obtain ⟨_, _, _, _, _, _, _, _, _, h, _⟩ := q
    exact absurd h (Nat.not_lt_zero _)
  | n + 1 => ok_L_formula T (D _ (mf 33 rfl)) O_L_draw O_L_atom (form_all T D O_L_draw O_L_atom n)
theorem tw_all (T : Txt K mg) (D : ∀ d ∈ fn, Fd K d) : ∀ n, Ok P w K mg base (1 + n) (He.ga K "_law_term_words") ["_law_term"] (spTW K n)
  | 0 => ok_none (D d_L_term_words (mf 34 rfl)) (fun _ _ _ _ _ _ us hl => match us, hl with | [_], _ => rfl) fun vs H Q E q => by
    obtain ⟨_, _, _, _, h, _⟩ := q
    cases h
  | n + 1 => ok_L_term_words T (D _ (mf 34 rfl)) (tw_all T D n)
theorem words_all (T : Txt K mg) (D : ∀ d ∈ fn, Fd K d) (O_L_draw : Ok P w K mg base 1 (He.ga K "_law_draw") ["_law_state_here", "_law_many"] spDraw) (O_tw : Ok P w K mg base 4 (He.ga K "_law_term_words") ["_law_term"] (spTW K 3)) (O_L_level : Ok P w K mg base 1 (He.ga K "_law_level") ["_law_formula_here"] (spLevel K)) :
    ∀ n, Ok P w K mg base (6 + 3 * n) (He.ga K "_law_words") ["_law_state_here", "_law_formula_here", "_law_level_here", "_law_last"] (spWords K n)
  | 0 => ok_none (D d_L_words (mf 38 rfl)) (fun _ _ _ _ _ _ us hl => match us, hl with | [_, _, _, _], _ => rfl) fun vs H Q E q => by
    obtain ⟨_, _, _, _, _, _, _, _, _, h, _⟩ := q
    exact absurd h (Nat.not_lt_zero _)
  | n + 1 =>
    have O := words_all T D O_L_draw O_tw O_L_level n
    have O1 := ok_L_simple_words T (D _ (mf 36 rfl)) O_L_draw O_tw O
    have O2 := ok_L_scope_words T (D _ (mf 37 rfl)) O_L_draw O
    have O3 := ok_L_plain_words T (D _ (mf 39 rfl)) O_L_level O1 O2 O
    (ok_L_words T (D _ (mf 38 rfl)) O_L_draw O_L_level O3).mono (Nat.le_of_eq (by omega))
theorem law_of (T : Txt K mg) (D : ∀ d ∈ fn, Fd K d) {fd : FuncData} (F : FunD K d_law.name d_law.qual d_law.params d_law.body d_law.scope [] [] (He.ga K "law") fd) (room : Room 85 callerA) : FnAt callerA P w K mg base (He.ga K "law") fd ["_law_script"] (spLaw K) := by
  have L : Low P w K mg base := low_of T D
  have A : At_ P w K mg base 72 := at_every T D L 72
  have O_word_at : Ok P w K mg base 1 (He.ga K "_word_at") ["text", "at"] spWordAt := ok_word_at T (D _ (mf 0 rfl))
  have O_token_at : Ok P w K mg base 2 (He.ga K "_token_at") ["text", "at"] spTokenAt := ok_token_at T (D _ (mf 1 rfl)) O_word_at
  have O_tokens : Ok P w K mg base 3 (He.ga K "tokens") ["text"] spTokens := ok_tokens T (D _ (mf 3 rfl)) O_token_at (ok_line_end T (D _ (mf 2 rfl)))
  have O_init : Ok P w K mg base 4 (mth K "__init__") ["self", "text"] (spInit K) := ok_init T (D _ (mf 4 rfl)) O_tokens
  have O_rf : Ok P w K mg base 83 (He.ga K "read_formula") ["text"] (spReadF K 72) := ok_read_formula T L A (D _ (mf 23 rfl)) O_init
  have O_rs : Ok P w K mg base 84 (He.ga K "read_statements") ["text"] (spReadS K 72) := ok_read_statements T L (D _ (mf 22 rfl)) O_init (ok_statement T L A (D _ (mf 21 rfl)))
  have O_draw : Ok P w K mg base 1 (He.ga K "_law_draw") ["_law_state_here", "_law_many"] spDraw := ok_L_draw T (D _ (mf 25 rfl))
  have O_gap : Ok P w K mg base 2 (He.ga K "_law_gap") ["_law_state_here", "_law_first", "_law_second"] spGap := ok_L_gap T (D _ (mf 28 rfl)) O_draw (ok_L_is_word T (D _ (mf 27 rfl)))
  have O_names : Ok P w K mg base 3 (He.ga K "_law_names") ["_law_state_here"] spNames := ok_L_names T (D _ (mf 30 rfl)) O_draw (ok_L_word T (D _ (mf 26 rfl)) O_draw)
  have O_atom : Ok P w K mg base 6 (He.ga K "_law_atom") ["_law_state_here", "_law_names_here", "_law_scope"] (spAtom K) := ok_L_atom T (D _ (mf 32 rfl)) O_draw (tree_all T D O_draw 3)
  exact at_law T F room (ok_L_state T (D _ (mf 24 rfl))) O_draw O_names (form_all T D O_draw O_atom 5) (words_all T D O_draw (tw_all T D 3) (ok_L_level T (D _ (mf 35 rfl))) 5) (ok_L_joined T (D _ (mf 29 rfl)) O_gap) O_rf O_rs
end
theorem facts {P : Program} {w : World} {K : PySem.W.Frag} {h : Heap} {mg : Str → Option Value} {f : Addr} (X : K.In h) (G : h.Ns mainGlobals mg) (hfa : mg ("law" : Str) = some (.ref f)) (c : He.SaysX fa fn [] [] ex w h K) :
    ∃ fd : FuncData, (∀ (s : Shared) (v : Value), BindsTo s fd ⟨[v], []⟩ [("_law_script", v)]) ∧ ∀ base : Heap, K.In base → base.Ns mainGlobals mg → FnAt callerA P w K mg base f fd ["_law_script"] (spLaw K) := by
  have T : Txt K mg := txt_of X G c
  have D : ∀ d ∈ fn, d.dfl = [] → d.kwd = [] → Fd K d := fun d hd e1 e2 => fd_of c hd e1 e2
  have e0 : ∀ d ∈ fn, d.dfl = [] ∧ d.kwd = [] := by
    intro d hd
    unfold fn at hd
    simp only [List.mem_cons, List.not_mem_nil, or_false] at hd
    repeat (rcases hd with rfl | hd; exact ⟨rfl, rfl⟩)
  have D' : ∀ d ∈ fn, Fd K d := fun d hd => D d hd (e0 d hd).1 (e0 d hd).2
  obtain ⟨fd, F⟩ := D' d_law (mf 40 rfl)
  have e := hfa.symm.trans (T.glo _ gm_law)
  cases e
  have b := FunD.bindsA (ps := ["_law_script"]) F fun _ _ _ _ _ _ us hl => match us, hl with | [_], _ => rfl
  exact ⟨fd, fun s v => b s [v] rfl, fun base _ _ => law_of T D' F ⟨rfl, by decide, by decide⟩⟩
end Ele
open PySem PySem.W PySem.Calls PyProof.Rows
theorem PySem.Challenge.cw_elenchus_k12_whole_formulas_are_read_holds : PySem.Challenge.rw_elenchus_k12_whole_formulas_are_read.Holds := by
  w_on; o_law
  refine HandSHeadRun.head_any (r := OpenLaw.row PySem.Challenge.rw_elenchus_k12_whole_formulas_are_read) (q := view (OpenLaw.row PySem.Challenge.rw_elenchus_k12_whole_formulas_are_read).prog [41]) (H := Ele.hk) (ob := Ele.ob) (M := 4000) (loose := Ele.loose)
    (d := HandSHeadRun.topDef (OpenLaw.row PySem.Challenge.rw_elenchus_k12_whole_formulas_are_read).prog 41) (kwd := []) Ele.ob_eq (by kernel_rfl) (fun s => by kernel_rfl) Ele.run (by kernel_rfl) (by kernel_rfl) (by kernel_rfl) (by rfl) (by first | assumption | decide +kernel) (by decide +kernel) ⟨rfl, rfl, rfl, rfl, rfl, by decide +kernel⟩ ?hw ?hc
  case hw => w_witness2
  case hc =>
    refine Ele.walk_at_ (l := PySem.Challenge.rw_elenchus_k12_whole_formulas_are_read) (n := 63) (x := "_law_script") rfl (by decide) (by kernel_rfl) ?F
    intro w mg fa h Y G hmg0
    obtain ⟨K, KX, c⟩ := Y
    have hmg : mg ("law" : PySem.Str) = some (.ref fa) := by
      have e : (HandSHeadRun.topDef (OpenLaw.row PySem.Challenge.rw_elenchus_k12_whole_formulas_are_read).prog 41).name = ("law" : PySem.Str) := by kernel_rfl
      rw [← e]
      exact hmg0
    obtain ⟨fd, hb, hF⟩ := Ele.facts (P := (PySem.Challenge.rw_elenchus_k12_whole_formulas_are_read).prog) (w := w) KX G hmg c
    exact ⟨K, fd, Ele.spLaw K, KX, hb, fun H a ns hl _ hS => ⟨a, ns, rfl, hS, fun _ => rfl⟩, hF⟩
