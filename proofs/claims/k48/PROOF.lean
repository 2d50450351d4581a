import PyProof.Rows.All
import Wide.All
import OpenK.AllK
import Wide.FinOn
import HandS.ForMost
import HandS.FStr
import HandS.DictComp
import HandS.ListItems
import HandS.IsInst
import HandS.Star
import HandS.HeadHook2
import HandS.Flow
import HandS.RaiseMore
import HandS.More
import HandS.Strs
import HandS.Zip
import KE.KDictItemsList
import HandS.TryOnly
import HandS.Conv
import HandS.Small
import HandS.Style
import HandS.Ends
import HandS.HeadEnd
import KE.KStateDown
import Lean
import HandS.Words
import HandS.Head0
import HandS.Head1
import HandS.Head2
import HandS.HeadHook1
import PyProof.EqLayable
import PyProof.ReprLen
import PyProof.StrBlockL
import PyProof.StrLaws
import PySem.Challenge.RW_longstrike_k48_rank_papers
set_option Elab.async false
set_option linter.all false
set_option maxRecDepth 100000
set_option maxHeartbeats 0
namespace LS
open PySem PySem.Spec PyProof.Rows L2
/-! the text -/
def top (i : Nat) : Stmt := PySem.Challenge.pw_longstrike_k48_rank_papers.main.body.getD i (.Pass ⟨0, 0, 0, 0⟩)
def mth (i j : Nat) : Stmt := match top i with
  | .ClassDef _ _ _ b _ _ _ _ _ _ _ => b.getD j (.Pass ⟨0, 0, 0, 0⟩)
  | s => s
abbrev s_law : Stmt := top 66
def d_law : He.DefD := ⟨("law", none), "law", "law", defArgs s_law, defBody s_law, defScope s_law, [], []⟩
abbrev s__law_bared : Stmt := top 63
def d__law_bared : He.DefD := ⟨("_law_bared", none), "_law_bared", "_law_bared", defArgs s__law_bared, defBody s__law_bared, defScope s__law_bared, [], []⟩
abbrev s__law_rules : Stmt := top 55
def d__law_rules : He.DefD := ⟨("_law_rules", none), "_law_rules", "_law_rules", defArgs s__law_rules, defBody s__law_rules, defScope s__law_rules, [], []⟩
abbrev s__law_made : Stmt := top 56
def d__law_made : He.DefD := ⟨("_law_made", none), "_law_made", "_law_made", defArgs s__law_made, defBody s__law_made, defScope s__law_made, [], []⟩
abbrev s__law_ranks : Stmt := top 61
def d__law_ranks : He.DefD := ⟨("_law_ranks", none), "_law_ranks", "_law_ranks", defArgs s__law_ranks, defBody s__law_ranks, defScope s__law_ranks, [], []⟩
abbrev s__law_pairs : Stmt := top 65
def d__law_pairs : He.DefD := ⟨("_law_pairs", none), "_law_pairs", "_law_pairs", defArgs s__law_pairs, defBody s__law_pairs, defScope s__law_pairs, [], []⟩
abbrev s__law_same : Stmt := top 49
def d__law_same : He.DefD := ⟨("_law_same", none), "_law_same", "_law_same", defArgs s__law_same, defBody s__law_same, defScope s__law_same, [], []⟩
abbrev s_is_paper : Stmt := top 44
def d_is_paper : He.DefD := ⟨("is_paper", none), "is_paper", "is_paper", defArgs s_is_paper, defBody s_is_paper, defScope s_is_paper, [], []⟩
abbrev s__law_draw : Stmt := top 46
def d__law_draw : He.DefD := ⟨("_law_draw", none), "_law_draw", "_law_draw", defArgs s__law_draw, defBody s__law_draw, defScope s__law_draw, [], []⟩
abbrev s__law_falls : Stmt := top 64
def d__law_falls : He.DefD := ⟨("_law_falls", none), "_law_falls", "_law_falls", defArgs s__law_falls, defBody s__law_falls, defScope s__law_falls, [], []⟩
abbrev s__law_with : Stmt := top 62
def d__law_with : He.DefD := ⟨("_law_with", none), "_law_with", "_law_with", defArgs s__law_with, defBody s__law_with, defScope s__law_with, [], []⟩
abbrev s__law_checks : Stmt := top 58
def d__law_checks : He.DefD := ⟨("_law_checks", none), "_law_checks", "_law_checks", defArgs s__law_checks, defBody s__law_checks, defScope s__law_checks, [], []⟩
abbrev s__law_checked : Stmt := top 54
def d__law_checked : He.DefD := ⟨("_law_checked", none), "_law_checked", "_law_checked", defArgs s__law_checked, defBody s__law_checked, defScope s__law_checked, [], []⟩
abbrev s__law_shape : Stmt := top 52
def d__law_shape : He.DefD := ⟨("_law_shape", none), "_law_shape", "_law_shape", defArgs s__law_shape, defBody s__law_shape, defScope s__law_shape, [], []⟩
abbrev s__law_tight : Stmt := top 59
def d__law_tight : He.DefD := ⟨("_law_tight", none), "_law_tight", "_law_tight", defArgs s__law_tight, defBody s__law_tight, defScope s__law_tight, [], []⟩
abbrev s__law_ties : Stmt := top 60
def d__law_ties : He.DefD := ⟨("_law_ties", none), "_law_ties", "_law_ties", defArgs s__law_ties, defBody s__law_ties, defScope s__law_ties, [], []⟩
abbrev s__law_mixed : Stmt := top 48
def d__law_mixed : He.DefD := ⟨("_law_mixed", none), "_law_mixed", "_law_mixed", defArgs s__law_mixed, defBody s__law_mixed, defScope s__law_mixed, [], []⟩
abbrev s__law_pick : Stmt := top 47
def d__law_pick : He.DefD := ⟨("_law_pick", none), "_law_pick", "_law_pick", defArgs s__law_pick, defBody s__law_pick, defScope s__law_pick, [], []⟩
abbrev s_checked_question : Stmt := top 39
def d_checked_question : He.DefD := ⟨("checked_question", none), "checked_question", "checked_question", defArgs s_checked_question, defBody s_checked_question, defScope s_checked_question, [], []⟩
abbrev s_is_rank_paper : Stmt := top 43
def d_is_rank_paper : He.DefD := ⟨("is_rank_paper", none), "is_rank_paper", "is_rank_paper", defArgs s_is_rank_paper, defBody s_is_rank_paper, defScope s_is_rank_paper, [], []⟩
abbrev s_is_row_of : Stmt := top 15
def d_is_row_of : He.DefD := ⟨("is_row_of", none), "is_row_of", "is_row_of", defArgs s_is_row_of, defBody s_is_row_of, defScope s_is_row_of, [], []⟩
abbrev s__law_all_checks : Stmt := top 53
def d__law_all_checks : He.DefD := ⟨("_law_all_checks", none), "_law_all_checks", "_law_all_checks", defArgs s__law_all_checks, defBody s__law_all_checks, defScope s__law_all_checks, [], []⟩
abbrev s__law_names : Stmt := top 51
def d__law_names : He.DefD := ⟨("_law_names", none), "_law_names", "_law_names", defArgs s__law_names, defBody s__law_names, defScope s__law_names, [], []⟩
abbrev s_Book_init : Stmt := mth 26 0
def d_Book_init : He.DefD := ⟨("Book", some "__init__"), "__init__", "Book.__init__", defArgs s_Book_init, defBody s_Book_init, defScope s_Book_init, [.adr (He.dflAt ("Book", some "__init__") 0), .adr (He.dflAt ("Book", some "__init__") 1)], []⟩
abbrev s__law_markable : Stmt := top 57
def d__law_markable : He.DefD := ⟨("_law_markable", none), "_law_markable", "_law_markable", defArgs s__law_markable, defBody s__law_markable, defScope s__law_markable, [], []⟩
abbrev s_stands_in : Stmt := top 16
def d_stands_in : He.DefD := ⟨("stands_in", none), "stands_in", "stands_in", defArgs s_stands_in, defBody s_stands_in, defScope s_stands_in, [], []⟩
abbrev s_Book_questions : Stmt := mth 26 7
def d_Book_questions : He.DefD := ⟨("Book", some "questions"), "questions", "Book.questions", defArgs s_Book_questions, defBody s_Book_questions, defScope s_Book_questions, [], []⟩
abbrev s_tight_columns : Stmt := top 42
def d_tight_columns : He.DefD := ⟨("tight_columns", none), "tight_columns", "tight_columns", defArgs s_tight_columns, defBody s_tight_columns, defScope s_tight_columns, [], []⟩
abbrev s_is_number : Stmt := top 14
def d_is_number : He.DefD := ⟨("is_number", none), "is_number", "is_number", defArgs s_is_number, defBody s_is_number, defScope s_is_number, [], []⟩
abbrev s_tight_kinds : Stmt := top 41
def d_tight_kinds : He.DefD := ⟨("tight_kinds", none), "tight_kinds", "tight_kinds", defArgs s_tight_kinds, defBody s_tight_kinds, defScope s_tight_kinds, [], []⟩
abbrev s__law_fresh : Stmt := top 50
def d__law_fresh : He.DefD := ⟨("_law_fresh", none), "_law_fresh", "_law_fresh", defArgs s__law_fresh, defBody s__law_fresh, defScope s__law_fresh, [], []⟩
abbrev s_kinds_of : Stmt := top 22
def d_kinds_of : He.DefD := ⟨("kinds_of", none), "kinds_of", "kinds_of", defArgs s_kinds_of, defBody s_kinds_of, defScope s_kinds_of, [], []⟩
abbrev s_column_rows_of : Stmt := top 23
def d_column_rows_of : He.DefD := ⟨("column_rows_of", none), "column_rows_of", "column_rows_of", defArgs s_column_rows_of, defBody s_column_rows_of, defScope s_column_rows_of, [], []⟩
abbrev s_menu_of : Stmt := top 25
def d_menu_of : He.DefD := ⟨("menu_of", none), "menu_of", "menu_of", defArgs s_menu_of, defBody s_menu_of, defScope s_menu_of, [], []⟩
abbrev s_checks_of : Stmt := top 24
def d_checks_of : He.DefD := ⟨("checks_of", none), "checks_of", "checks_of", defArgs s_checks_of, defBody s_checks_of, defScope s_checks_of, [], []⟩
abbrev s_Book_markable : Stmt := mth 26 6
def d_Book_markable : He.DefD := ⟨("Book", some "markable"), "markable", "Book.markable", defArgs s_Book_markable, defBody s_Book_markable, defScope s_Book_markable, [], []⟩
abbrev s_Book_contains : Stmt := mth 26 9
def d_Book_contains : He.DefD := ⟨("Book", some "__contains__"), "__contains__", "Book.__contains__", defArgs s_Book_contains, defBody s_Book_contains, defScope s_Book_contains, [], []⟩
abbrev s_check_fresh : Stmt := top 21
def d_check_fresh : He.DefD := ⟨("check_fresh", none), "check_fresh", "check_fresh", defArgs s_check_fresh, defBody s_check_fresh, defScope s_check_fresh, [], []⟩
abbrev s_Column_init : Stmt := mth 20 0
def d_Column_init : He.DefD := ⟨("Column", some "__init__"), "__init__", "Column.__init__", defArgs s_Column_init, defBody s_Column_init, defScope s_Column_init, [], []⟩
abbrev s_is_name : Stmt := top 13
def d_is_name : He.DefD := ⟨("is_name", none), "is_name", "is_name", defArgs s_is_name, defBody s_is_name, defScope s_is_name, [], []⟩
def fnL : List He.DefD := [d_law, d__law_bared, d__law_rules, d__law_made, d__law_ranks, d__law_pairs, d__law_same, d_is_paper, d__law_draw, d__law_falls, d__law_with, d__law_checks, d__law_checked, d__law_shape, d__law_tight, d__law_ties, d__law_mixed, d__law_pick, d_checked_question, d_is_rank_paper, d_is_row_of, d__law_all_checks, d__law_names, d_Book_init, d__law_markable, d_stands_in, d_Book_questions, d_tight_columns, d_is_number, d_tight_kinds, d__law_fresh, d_kinds_of, d_column_rows_of, d_menu_of, d_checks_of, d_Book_markable, d_Book_contains, d_check_fresh, d_Column_init, d_is_name]
def fa0 : List He.Fa := [.free "len", .free "int", .free "str", .free "list", .free "tuple", .free "dict", .free "repr", .free "any", .free "all", .free "sorted", .free "max", .free "isinstance", .free "range", .free "bool", .free "set", .glo "_law_bared", .glo "_law_rules", .glo "_law_made", .glo "_law_ranks", .glo "_law_pairs", .glo "_law_same", .glo "is_paper", .glo "_law_draw", .glo "_law_falls", .glo "_law_with", .glo "_law_checks", .glo "_law_checked", .glo "_law_shape", .glo "Book", .cls "Book", .mkr "Book", .glo "_law_tight", .glo "_law_ties", .glo "_law_mixed", .glo "_law_pick", .glo "checked_question", .glo "is_rank_paper", .glo "is_row_of", .glo "_law_all_checks", .glo "_law_names"]
def fa1 : List He.Fa := [.glo "_law_markable", .glo "stands_in", .glo "tight_columns", .glo "is_number", .glo "tight_kinds", .glo "_law_fresh", .glo "kinds_of", .glo "column_rows_of", .glo "menu_of", .glo "checks_of", .glo "Column", .cls "Column", .mkr "Column", .glo "check_fresh", .glo "is_name", .glo "law", .noat "Book" "all_checks", .noat "Book" "column_rows", .noat "Book" "column_table", .noat "Book" "open_kinds", .noat "Book" "own_checks", .noat "Column" "goal", .noat "Column" "home", .noat "Column" "rule", .noat "Column" "word", .meth "Book" "questions", .meth "Book" "markable", .meth "Book" "__contains__", .str "CLEAR" "clear", .str "FALL" "fall", .str "LETTERS" "abcdefghijklmnopqrstuvwxyz", .str "STRUCK" "strike"]
def faL : List He.Fa := fa0 ++ fa1
abbrev R0 : PySem.W.OpenRow := PySem.W.OpenLaw.row PySem.Challenge.rw_longstrike_k48_rank_papers
abbrev hk : PySem.W.Hook := He.hookD 5 faL fnL
def ob (s : PySem.W.SharedT) : He.AlD := He.obsDG 5 faL fnL (HandSHeadRun.getT s)
theorem ob_eq (s : PySem.W.SharedT) : ob s = hk.obs s.abs := He.obsDG_eq (HandSHeadRun.getT_eq s)
def names0 : List PySem.Str := ["_wall", "StrikeError", "BadName", "NameInUse", "UnknownKind", "BadRule", "UnknownCheck", "UnlikeBooks", "BadQuestion", "LETTERS", "STRUCK", "is_name", "is_number", "is_row_of", "stands_in", "FALL", "CLEAR", "Column", "check_fresh", "kinds_of", "column_rows_of", "checks_of", "menu_of", "Book", "are_like", "check_like", "known_check", "with_checks", "HERE", "lacking"]
def names1 : List PySem.Str := ["Watch", "KindWatch", "ColumnWatch", "watch_of", "checked_question", "behind_all", "tight_kinds", "tight_columns", "is_rank_paper", "is_paper", "_law_draw", "_law_pick", "_law_mixed", "_law_same", "_law_fresh", "_law_names", "_law_shape", "_law_all_checks", "_law_checked", "_law_rules", "_law_made", "_law_markable", "_law_checks", "_law_tight", "_law_ties", "_law_ranks", "_law_with", "_law_bared", "_law_falls", "_law_pairs"]
def names : List PySem.Str := names0 ++ names1
theorem run (w : World) : HandSHeadRun.RunEq R0 (PySem.W.view R0.prog [66]) hk ob 6000 names w := by
  intro os
  kernel_rfl

end LS
set_option Elab.async false
set_option linter.all false
set_option maxRecDepth 100000
/-! LS1: plain data, a small syntax without places, and what it is worth. -/
namespace LS
open PySem L2

inductive P where
  | non | bl (b : Bool) | int (i : Int) | str (s : Str)
  | lst (xs : List P) | tup (xs : List P)
  | dct (kvs : List (Key × P))
  | obj (c : Str) (fs : List (Str × P))
  | scr (ns : List Int)
inductive W where
  | v (p : P) | c (n : Nat)
inductive Cell where
  | lst (xs : List W) | dct (kvs : List (Key × W)) | ins (c : Str) (fs : List (Str × W)) | dead
abbrev Cells := List Cell
abbrev Env := List (Option W)

inductive R (α : Type) where
  | ok (a : α) | ex (c : Str) (fs : List (Str × P)) (S : Cells) | no
def R.bind {α β : Type} (m : R α) (f : α → R β) : R β := match m with
  | .ok a => f a
  | .ex c fs S => .ex c fs S
  | .no => .no
instance : Monad R where
  pure := R.ok
  bind := R.bind
def R.of {α : Type} : Option α → R α
  | some a => .ok a
  | none => .no

/-- a slot, an op, a comparison -/
inductive BO where | add | sub | mul | fdiv | mod | pow
inductive CO where | eq | ne | lt | le | gt | ge | isN | notN | in_ | nin
inductive Tg where | name (i : Nat) | tup (is : List Nat)
/-- built-in functions of values -/
inductive BF where | len | int | str | list | tuple | dict | repr | any | all | isStr | isInt | isBool | isRow | isLT | max2 | sorted
/-- methods of built-in things -/
inductive BM where | append | extend | pop0 | popAt | insert | split | join | get | get2 | items

/-- further built-in functions of plain values, and methods of plain values -/
inductive PF where | isInt | isBool | isRow | intB | tuple | lenSet

inductive E where
  | var (i : Nat)
  | lit (p : P)
  | glo (x : Str)
  | bin (o : BO) (a b : E)
  | cmp (o : CO) (a b : E)
  | chn (o o' : CO) (a b c : E)
  | and (a b : E) | or (a b : E) | not (a : E) | ite (t a b : E)
  | nil | cons (a l : E) | star (a l : E) | kv (k v l : E)
  | tup (l : E) | lst (cell : Bool) (l : E) | dic (cell : Bool) (l : E)
  | lc (cell : Bool) (own : List (Str × Nat)) (tg : Tg) (it ifs elt : E)
  | lc2 (cell : Bool) (own : List (Str × Nat)) (tg : Tg) (it ifs : E) (tg1 : Tg) (it1 ifs1 elt : E)
  | dc (cell : Bool) (own : List (Str × Nat)) (tg : Tg) (it ifs k v : E)
  | sub (a i : E) | slc (a lo hi : E)
  | att (a : E) (f : Str)
  | call (f : Str) (l : E) | make (c : Str) (l : E) | meth (a : E) (m : Str) (l : E)
  | bm (m : BM) (a : E) (l : E)
  | bf (f : BF) (l : E) | listC (a : E) | listItems (cell : Bool) (a : E)
  | has (neg : Bool) (a b : E) | mx (l : E)
  | it (a : E) | rng (l : E) | vals (a : E) | items (a : E) | enum (a : E)
  | fstr (l : E)
  | pf (f : PF) (a : E) | get (a k : E) | get2 (a k d : E)

inductive S where
  | nil | cons (a r : S)
  | expr (e : E) | ret (e : E) | pass
  | set (i : Nat) (e : E) | setT (is : List Nat) (e : E) | par (is : List Nat) (l : E)
  | sub (o i e : E) | fld (o : E) (f : Str) (e : E)
  | aug (i : Nat) (o : BO) (e : E)
  | ite (t : E) (a b : S) | whl (t : E) (b : S) | for_ (tg : Tg) (it : E) (b : S)
  | brk | cnt
  | raise (c : Str) (l : E)
  | del (o i : E)

/-! ### values -/
def allP : List W → Option (List P)
  | [] => some []
  | .v p :: l => (allP l).map (p :: ·)
  | .c _ :: _ => none
def allKP : List (Key × W) → Option (List (Key × P))
  | [] => some []
  | (k, .v p) :: l => (allKP l).map ((k, p) :: ·)
  | (_, .c _) :: _ => none
def allFP : List (Str × W) → Option (List (Str × P))
  | [] => some []
  | (k, .v p) :: l => (allFP l).map ((k, p) :: ·)
  | (_, .c _) :: _ => none
/-- what a cell of plain things shows -/
def Cell.view : Cell → Option P
  | .lst ws => (allP ws).map .lst
  | .dct kvs => (allKP kvs).map .dct
  | .ins c fs => (allFP fs).map (.obj c)
  | .dead => none
def W.view (S : Cells) : W → Option P
  | .v q => some q
  | .c n => match S[n]? with
    | some z => z.view
    | none => none
/-- a value laid into a plain thing: a cell is frozen -/
def freeze (S : Cells) : W → R (P × Cells)
  | .v p => .ok (p, S)
  | .c n => match S[n]? with
    | some c => match c.view with
      | some p => .ok (p, S.set n .dead)
      | none => .no
    | none => .no
def freezeL : List W → Cells → R (List P × Cells)
  | [], S => .ok ([], S)
  | w :: ws, S => do
    let (p, S) ← freeze S w
    let (ps, S) ← freezeL ws S
    .ok (p :: ps, S)
def refBelow (n : Nat) : W → Bool
  | .v _ => true
  | .c m => decide (m < n)
def Cell.lows (n : Nat) : Cell → Bool
  | .lst ws => ws.all (refBelow n)
  | .dct kvs => kvs.all fun q => refBelow n q.2
  | .ins _ fs => fs.all fun q => refBelow n q.2
  | .dead => true
/-- a new cell -/
def alloc (c : Cell) (S : Cells) : R (W × Cells) := if c.lows S.length = true then .ok (.c S.length, S ++ [c]) else .no
/-- a cell written anew -/
def write (n : Nat) (c : Cell) (S : Cells) : R Cells := if c.lows n = true then .ok (S.set n c) else .no
def lim : Nat := 1000000

def keyOf : P → Option Key
  | .int i => some (.inl i)
  | .str s => some (.inr s)
  | _ => none
def kP : Key → P
  | .inl i => .int i
  | .inr s => .str s
def getK {α : Type} (kvs : List (Key × α)) (k : Key) : Option α := (kvs.find? fun q => decide (q.1 = k)).map (·.2)
def setK {α : Type} (kvs : List (Key × α)) (k : Key) (v : α) : List (Key × α) :=
  if (kvs.any fun q => decide (q.1 = k)) = true then kvs.map (fun q => if q.1 = k then (q.1, v) else q) else kvs ++ [(k, v)]
def delK {α : Type} (kvs : List (Key × α)) (k : Key) : List (Key × α) := kvs.filter fun q => decide (q.1 ≠ k)
def setF {α : Type} (f : Str) (v : α) : List (Str × α) → List (Str × α)
  | [] => [(f, v)]
  | q :: r => if q.1 = f then (q.1, v) :: r else q :: setF f v r

mutual
def P.py : P → Option PyData
  | .non => some .none
  | .bl b => some (.bool b)
  | .int i => some (.int i)
  | .str s => some (.str s)
  | .lst xs => (pyAll xs).map .list
  | .tup xs => (pyAll xs).map .tuple
  | .dct _ => none
  | .obj _ _ => none
  | .scr _ => none
def pyAll : List P → Option (List PyData)
  | [] => some []
  | x :: xs => match x.py, pyAll xs with
    | some d, some ds => some (d :: ds)
    | _, _ => none
end
def flatP : P → Bool
  | .non => true | .bl _ => true | .int _ => true | .str _ => true
  | _ => false
def eqF : P → P → Bool
  | .non, .non => true
  | .bl a, .bl b => a == b
  | .bl a, .int b => (if a then 1 else 0) == b
  | .int a, .bl b => a == (if b then 1 else 0)
  | .int a, .int b => a == b
  | .str a, .str b => a == b
  | _, _ => false
/-- == -/
def eqP (x y : P) : Option Bool := match x.py, y.py with
  | some d, some e => if (SeqAt.shaped d && SeqAt.shaped e) = true then some (PyData.eqv d e) else none
  | _, _ => none
/-- == of dicts of flat things -/
def eqD (a b : List (Key × P)) : Option Bool := if (a.all fun q => flatP q.2) && (b.all fun q => flatP q.2) then
    some (decide (a.length = b.length) && a.all fun q => match getK b q.1 with
      | some u => eqF q.2 u
      | none => false)
  else none
/-- == of flat things -/
def eqS (x y : P) : Option Bool := match x, y with
  | .str a, .str b => some (decide (a = b))
  | .int a, .int b => some (decide (a = b))
  | .bl a, .bl b => some (decide (a = b))
  | .non, .non => some true
  | .str _, .non => some false
  | .non, .str _ => some false
  | .int _, .non => some false
  | .non, .int _ => some false
  | .bl _, .non => some false
  | .non, .bl _ => some false
  | .str _, .int _ => some false
  | .int _, .str _ => some false
  | .str _, .bl _ => some false
  | .bl _, .str _ => some false
  | .dct a, .dct b => eqD a b
  | x, y => eqP x y
/-- repr -/
def isSeqP : P → Bool
  | .lst _ => true
  | .tup _ => true
  | _ => false
def reprP (x : P) : Option Str := match x.py with
  | some d => if (SeqAt.shaped d && d.showable && decide (d.shown.length ≤ lim)) = true then some d.shown else none
  | none => none
def truth : P → Option Bool
  | .non => some false
  | .bl b => some b
  | .int i => some (i != 0)
  | .str s => if s.length ≤ lim then some ((s.length : Int) != 0) else none
  | .lst xs => some (!xs.isEmpty)
  | .tup xs => some (!xs.isEmpty)
  | .dct _ => none
  | .obj _ _ => none
  | .scr _ => none

def ok1 (S : Cells) (p : P) : R (W × Cells) := .ok (.v p, S)
def binOp (o : BO) (x y : W) (S : Cells) : R (W × Cells) := match o, x.view S, y.view S with
  | .add, some (.int i), some (.int j) => ok1 S (.int (i + j))
  | .add, some (.str a), some (.str b) => if a.length + b.length ≤ lim then ok1 S (.str (a ++ b)) else .no
  | .add, some (.lst a), some (.lst b) => if a.length + b.length ≤ lim then ok1 S (.lst (a ++ b)) else .no
  | .sub, some (.int i), some (.int j) => ok1 S (.int (i - j))
  | .mul, some (.int i), some (.int j) => if i.natAbs < 18446744073709551616 ∨ j.natAbs < 18446744073709551616 then ok1 S (.int (i * j)) else .no
  | .fdiv, some (.int i), some (.int j) => if 0 < j ∧ j < 1073741824 then ok1 S (.int (i / j)) else .no
  | .mod, some (.int i), some (.int j) => if 0 < j then ok1 S (.int (i % j)) else .no
  | .pow, some (.int i), some (.int j) => if 0 ≤ j ∧ j ≤ 1000000 ∧ i.natAbs < 18446744073709551616 then ok1 S (.int (i ^ j.toNat)) else .no
  | _, _, _ => .no
def inP (x y : P) : Option Bool := match y with
  | .dct kvs => (keyOf x).map fun k => (getK kvs k).isSome
  | .str s => match x with
    | .str c => if c.length = 1 then some (decide (c.cps.toList.headD 0 ∈ s.cps.toList)) else none
    | _ => none
  | .lst ys => if flatP x && ys.all flatP then some (ys.any fun y => eqF y x) else none
  | .tup ys => if flatP x && ys.all flatP then some (ys.any fun y => eqF y x) else none
  | _ => none
def isNon : P → Bool
  | .non => true
  | _ => false
def cmpP (o : CO) (x y : P) : Option Bool := match o with
  | .eq => eqS x y
  | .ne => (eqS x y).map not
  | .lt => match x, y with
    | .int i, .int j => some (decide (i < j))
    | _, _ => none
  | .le => match x, y with
    | .int i, .int j => some (decide (i ≤ j))
    | _, _ => none
  | .gt => match x, y with
    | .int i, .int j => some (decide (j < i))
    | _, _ => none
  | .ge => match x, y with
    | .int i, .int j => some (decide (j ≤ i))
    | _, _ => none
  | .isN => match y with
    | .non => some (isNon x)
    | _ => none
  | .notN => match y with
    | .non => some (!isNon x)
    | _ => none
  | .in_ => inP x y
  | .nin => (inP x y).map not
/-- a comparison; of is None a cell is not None -/
def cmpOp (o : CO) (x y : W) (S : Cells) : R (W × Cells) := match x.view S, y.view S with
  | some a, some b => match cmpP o a b with
    | some b => ok1 S (.bl b)
    | none => .no
  | _, _ => .no
def ixP (x i : P) : Option P := match x, i with
  | .lst xs, .int i => atI xs i
  | .tup xs, .int i => atI xs i
  | .str s, .int i => if s.length ≤ lim then (atI s.cps.toList i).map fun c => .str ⟨#[c]⟩ else none
  | .dct kvs, k => (keyOf k).bind fun k => getK kvs k
  | _, _ => none
def subOp (x i : W) (S : Cells) : R (W × Cells) := match x, i with
  | .v a, .v b => match ixP a b with
    | some p => ok1 S p
    | none => .no
  | .c n, .v b => match S[n]?, b with
    | some (.lst xs), .int i => match atI xs i with
      | some w => .ok (w, S)
      | none => .no
    | some (.dct kvs), k => match keyOf k with
      | some k => match getK kvs k with
        | some w => .ok (w, S)
        | none => .no
      | none => .no
    | _, _ => .no
  | _, _ => .no
def cutL {α : Type} (xs : List α) (lo hi : Option Int) : List α := (xs.drop (HT.sIx xs.length 0 lo)).take (HT.sIx xs.length xs.length hi - HT.sIx xs.length 0 lo)
def slcOp (x : W) (lo hi : Option Int) (S : Cells) : R (W × Cells) := match x.view S with
  | some (.lst xs) => ok1 S (.lst (cutL xs lo hi))
  | some (.str s) => if s.length ≤ lim then ok1 S (.str (cutS s lo hi)) else .no
  | some (.tup xs) => if HT.sIx xs.length 0 lo = 0 ∧ HT.sIx xs.length xs.length hi = xs.length then .no else ok1 S (.tup (cutL xs lo hi))
  | _ => .no
def attOp (fl : Str → Str → Bool) (x : W) (f : Str) (S : Cells) : R (W × Cells) := match x with
  | .v (.obj c fs) => match fl c f, fs.lookup f with
    | true, some p => ok1 S p
    | _, _ => .no
  | .c n => match S[n]? with
    | some (.ins c fs) => match fl c f, fs.lookup f with
      | true, some w => .ok (w, S)
      | _, _ => .no
    | _ => .no
  | _ => .no
/-- the class of an object that has no attribute m of its own -/
def clsOf (m : Str) (x : W) (S : Cells) : Option Str := match x with
  | .v (.obj c fs) => if (fs.lookup m).isNone = true then some c else none
  | .c n => match S[n]? with
    | some (.ins c fs) => if (fs.lookup m).isNone = true then some c else none
    | _ => none
  | _ => none
def strsOf : List P → Option (List Str)
  | [] => some []
  | .str s :: l => (strsOf l).map (s :: ·)
  | _ :: _ => none
def bools : List P → Option (List Bool)
  | [] => some []
  | .bl s :: l => (bools l).map (s :: ·)
  | _ :: _ => none
/-- pairs (a list or tuple of two) as a dict's -/
def pairsOf : List P → Option (List (Key × P))
  | [] => some []
  | .tup [k, v] :: l => match keyOf k, pairsOf l with
    | some k, some r => some ((k, v) :: r)
    | _, _ => none
  | _ :: _ => none
def mergeP (kvs more : List (Key × P)) : List (Key × P) := more.foldl (fun acc q => setK acc q.1 q.2) kvs
def isStrP : P → Bool
  | .str _ => true
  | _ => false
def plainTy : P → Bool
  | .obj _ _ => false
  | .scr _ => false
  | _ => true
def bfOp (f : BF) (xs : List P) : Option P := match f, xs with
  | .len, [.str s] => if s.length ≤ lim then some (.int s.length) else none
  | .len, [.lst l] => some (.int l.length)
  | .len, [.tup l] => some (.int l.length)
  | .len, [.dct l] => some (.int l.length)
  | .int, [.int i] => some (.int i)
  | .str, [.str s] => some (.str s)
  | .list, [.lst l] => some (.lst l)
  | .list, [.tup l] => some (.lst l)
  | .dict, [.lst l] => (pairsOf l).map fun kvs => .dct (mergeP [] kvs)
  | .repr, [p] => (reprP p).map .str
  | .any, [.lst l] => (bools l).map fun bs => .bl (bs.any id)
  | .all, [.lst l] => (bools l).map fun bs => .bl (bs.all id)
  | .isStr, [p] => if plainTy p = true then some (.bl (isStrP p)) else none
  | .max2, [.int i, .int j] => some (.int (if j > i then j else i))
  | .dict, [.dct kvs] => some (.dct kvs)
  | .list, [.dct kvs] => some (.lst (kvs.map fun z => kP z.1))
  | _, _ => none

def isIntP : P → Bool
  | .int _ => true
  | .bl _ => true
  | _ => false
def isBoolP : P → Bool
  | .bl _ => true
  | _ => false
def isRowP : P → Bool
  | .lst _ => true
  | .tup _ => true
  | _ => false
/-- the texts of a list, each once -/
def onceS (xs : List Str) : List Str := xs.foldl (fun acc x => if x ∈ acc then acc else acc ++ [x]) []
def pfOp (f : PF) (x : P) : Option P := match f, x with
  | .isInt, p => if plainTy p = true then some (.bl (isIntP p)) else none
  | .isBool, p => if plainTy p = true then some (.bl (isBoolP p)) else none
  | .isRow, p => if plainTy p = true then some (.bl (isRowP p)) else none
  | .intB, .bl b => some (.int (if b then 1 else 0))
  | .tuple, .lst l => some (.tup l)
  | .tuple, .tup l => some (.tup l)
  | .lenSet, .lst l => match strsOf l with
    | some ss => if ss.length ≤ 4000 then some (.int (onceS ss).length) else none
    | none => none
  | _, _ => none
def getOp (x y z : W) (S : Cells) : R (W × Cells) := match x.view S, y with
  | some (.dct kvs), .v p => match keyOf p with
    | some k => .ok (((getK kvs k).map W.v).getD z, S)
    | none => .no
  | _, _ => .no
def isDct (x : W) (S : Cells) : Bool := match x.view S with
  | some (.dct _) => true
  | _ => false

/-! ### what an expression is worth -/
structure Gm where
  fu : Nat
  glo : Str → Option P
  fld : Str → Str → Bool
  fn : Str → Bool
  met : Str → Str → Bool
structure Cn where
  call : Str → List W → Cells → R (W × Cells)
  g : Gm
inductive Iter where
  | st (xs : List W) | cl (n : Nat)
def setSt (env : Env) (i : Nat) (w : W) : Env := env.set i (some w)
def setMany (env : Env) : List Nat → List W → Option Env
  | [], [] => some env
  | i :: is, w :: ws => setMany (env.set i (some w)) is ws
  | _, _ => none
def setTg (tg : Tg) (w : W) (env : Env) : Option Env := match tg with
  | .name i => some (env.set i (some w))
  | .tup is => match w with
    | .v (.tup ps) => setMany env is (ps.map .v)
    | .v (.lst ps) => setMany env is (ps.map .v)
    | _ => none
def wipeE (env : Env) : List Nat → Env
  | [] => env
  | i :: is => (wipeE env is).set i none
def itemsOf (w : W) (S : Cells) : R Iter := match w with
  | .v (.lst xs) => .ok (.st (xs.map .v))
  | .v (.tup xs) => .ok (.st (xs.map .v))
  | .v (.str s) => .ok (.st (s.cps.toList.map fun c => .v (.str ⟨#[c]⟩)))
  | .v (.dct kvs) => .ok (.st (kvs.map fun q => .v (kP q.1)))
  | .c n => match S[n]? with
    | some (.lst _) => .ok (.cl n)
    | _ => .no
  | _ => .no
/-- a list that grows by turns, in the cell D -/
def pushC (D : Nat) (w : W) (S : Cells) : R Cells := match S[D]? with
  | some (.lst acc) => if acc.length < lim then write D (.lst (acc ++ [w])) S else .no
  | _ => .no
def putC (D : Nat) (k : Key) (w : W) (S : Cells) : R Cells := match S[D]? with
  | some (.dct kvs) => if kvs.length < lim then write D (.dct (setK kvs k w)) S else .no
  | _ => .no
def loopL (turn : W → Cells → R Cells) : List W → Cells → R Cells
  | [], S => .ok S
  | x :: xs, S => (turn x S).bind fun S => loopL turn xs S
def loopC (turn : W → Cells → R Cells) (n : Nat) : Nat → Nat → Cells → R Cells
  | 0, _, _ => .no
  | fu + 1, i, S => match S[n]? with
    | some (.lst xs) => match xs[i]? with
      | some x => (turn x S).bind fun S => loopC turn n fu (i + 1) S
      | none => .ok S
    | _ => .no
def loopI (fu : Nat) (turn : W → Cells → R Cells) (it : Iter) (S : Cells) : R Cells := match it with
  | .st xs => loopL turn xs S
  | .cl n => loopC turn n fu 0 S
/-- the end of a comprehension whose list or dict stands at D = S.length ahead of it -/
def finC (cell : Bool) (D : Nat) (S : Cells) : R (W × Cells) := match cell with
  | true => if S.length = D + 1 then .ok (.c D, S) else .no
  | false => match S[D]? with
    | some c => match c.view with
      | some p => .ok (.v p, S.take D)
      | none => .no
    | none => .no
def optInt : W → Option (Option Int)
  | .v (.int i) => some (some i)
  | _ => none
def viewL (ws : List W) (S : Cells) : Option (List P) := match ws with
  | [] => some []
  | w :: ws => match w.view S, viewL ws S with
    | some p, some ps => some (p :: ps)
    | _, _ => none
def appendOp (x : W) (xs : List W) (S : Cells) : R (W × Cells) := match x, xs with
  | .c n, [w] => (pushC n w S).bind fun S => .ok (.v .non, S)
  | _, _ => .no
def extendOp (x : W) (xs : List W) (S : Cells) : R (W × Cells) := match x, xs with
  | .c n, [w] => match S[n]?, w.view S with
    | some (.lst acc), some (.lst ps) => if acc.length + ps.length ≤ lim then (write n (.lst (acc ++ ps.map .v)) S).bind fun S => .ok (.v .non, S) else .no
    | _, _ => .no
  | _, _ => .no
def popOp (x : W) (xs : List W) (S : Cells) : R (W × Cells) := match x, xs with
  | .c n, [.v (.int i)] => match S[n]? with
    | some (.lst acc) => match ixN acc.length i with
      | some j => match acc[j]? with
        | some w => (write n (.lst (acc.eraseIdx j)) S).bind fun S => .ok (w, S)
        | none => .no
      | none => .no
    | _ => .no
  | _, _ => .no
def joinOp (x : W) (xs : List W) (S : Cells) : R (W × Cells) := match x, xs with
  | .v (.str a), [w] => match w.view S with
    | some (.lst l) => match strsOf l with
      | some ys => if (ys.map (·.length)).sum + ys.length * a.length ≤ lim then ok1 S (.str (Txt.join a ys)) else .no
      | none => .no
    | _ => .no
  | _, _ => .no
def splitOp (x : W) (xs : List W) (S : Cells) : R (W × Cells) := match x, xs with
  | .v (.str a), [.v (.str b)] => if (b.length == 0) = false ∧ a.length + 2 ≤ lim then ok1 S (.lst ((Txt.split a b).map .str)) else .no
  | _, _ => .no
def bmOp (m : BM) (x : W) (xs : List W) (S : Cells) : R (W × Cells) := match m with
  | .append => appendOp x xs S
  | .extend => extendOp x xs S
  | .pop0 => popOp x xs S
  | .join => joinOp x xs S
  | .split => splitOp x xs S
  | _ => .no
def bmTy (m : BM) (x : W) (S : Cells) : Bool := match m, x with
  | .append, .c n => isLst S[n]?
  | .extend, .c n => isLst S[n]?
  | .pop0, .c n => isLst S[n]?
  | .join, .v (.str _) => true
  | .split, .v (.str _) => true
  | _, _ => false
where isLst : Option Cell → Bool
  | some (.lst _) => true
  | _ => false
def andOp (q : W × Cells) (k : Cells → R (W × Cells)) (o : Bool) : R (W × Cells) := match q.1.view q.2 with
  | some p => match truth p with
    | some b => if b = o then k q.2 else .ok q
    | none => .no
  | none => .no
def testOf (m : R (W × Cells)) : R (Bool × Cells) := m.bind fun q => match q.1.view q.2 with
  | some p => match truth p with
    | some b => .ok (b, q.2)
    | none => .no
  | none => .no
def rngOf : List W → R Iter
  | [.v (.int j)] => if -4611686018427387904 ≤ j ∧ j < 4611686018427387904 then .ok (.st ((List.range j.toNat).map fun (i : Nat) => W.v (.int (0 + (i : Int))))) else .no
  | [.v (.int a), .v (.int j)] => if -4611686018427387904 ≤ a ∧ a < 4611686018427387904 ∧ -4611686018427387904 ≤ j ∧ j < 4611686018427387904 then .ok (.st ((List.range (j - a).toNat).map fun (i : Nat) => W.v (.int (a + (i : Int))))) else .no
  | _ => .no
mutual
def evE (C : Cn) : E → Env → Cells → R (W × Cells)
  | .var i, env, S => match env[i]? with
    | some (some w) => .ok (w, S)
    | _ => .no
  | .lit p, _, S => .ok (.v p, S)
  | .glo x, _, S => match C.g.glo x with
    | some p => .ok (.v p, S)
    | none => .no
  | .bin o a b, env, S => (evE C a env S).bind fun q => (evE C b env q.2).bind fun q2 => binOp o q.1 q2.1 q2.2
  | .cmp o a b, env, S => (evE C a env S).bind fun q => (evE C b env q.2).bind fun q2 => cmpOp o q.1 q2.1 q2.2
  | .chn o o' a b c, env, S => (evE C a env S).bind fun q => (evE C b env q.2).bind fun q2 => (cmpOp o q.1 q2.1 q2.2).bind fun z => match z.1 with
    | .v (.bl true) => (evE C c env z.2).bind fun q3 => cmpOp o' q2.1 q3.1 q3.2
    | .v (.bl false) => .ok (.v (.bl false), z.2)
    | _ => .no
  | .and a b, env, S => (evE C a env S).bind fun q => andOp q (fun S => evE C b env S) true
  | .or a b, env, S => (evE C a env S).bind fun q => andOp q (fun S => evE C b env S) false
  | .not a, env, S => (testOf (evE C a env S)).bind fun q => .ok (.v (.bl (!q.1)), q.2)
  | .ite t a b, env, S => (testOf (evE C t env S)).bind fun q => if q.1 = true then evE C a env q.2 else evE C b env q.2
  | .tup l, env, S => (evL C l env S).bind fun q => if q.1.length ≤ lim then (freezeL q.1 q.2).bind fun q => .ok (.v (.tup q.1), q.2) else .no
  | .lst true l, env, S => (evL C l env S).bind fun q => if q.1.length ≤ lim then alloc (.lst q.1) q.2 else .no
  | .lst false l, env, S => (evL C l env S).bind fun q => if q.1.length ≤ lim then (freezeL q.1 q.2).bind fun q => .ok (.v (.lst q.1), q.2) else .no
  | .dic cell l, env, S => (evK C l env (S ++ [.dct []])).bind fun q => match q.2[S.length]? with
    | some (.dct []) => if 15 < q.1.length then .no else (write S.length (.dct (q.1.foldl (fun acc z => setK acc z.1 z.2) [])) q.2).bind fun S2 => finC cell S.length S2
    | _ => .no
  | .lc cell own tg it ifs elt, env, S => (evI C it env S).bind fun q => (loopI C.g.fu (fun x S => match setTg tg x (wipeE env (own.map (·.2))) with
      | some env => (evIf C ifs env S).bind fun b => if b.1 = true then (evE C elt env b.2).bind fun z => pushC q.2.length z.1 z.2 else .ok b.2
      | none => .no) q.1 (q.2 ++ [.lst []])).bind fun S2 => finC cell q.2.length S2
  | .dc cell own tg it ifs k v, env, S => (evI C it env S).bind fun q => (loopI C.g.fu (fun x S => match setTg tg x (wipeE env (own.map (·.2))) with
      | some env => (evIf C ifs env S).bind fun b => if b.1 = true then (evE C k env b.2).bind fun y => (evE C v env y.2).bind fun z => match y.1 with
          | .v p => match keyOf p with
            | some k => putC q.2.length k z.1 z.2
            | none => .no
          | _ => .no
        else .ok b.2
      | none => .no) q.1 (q.2 ++ [.dct []])).bind fun S2 => finC cell q.2.length S2
  | .sub a i, env, S => (evE C a env S).bind fun q => (evE C i env q.2).bind fun q2 => subOp q.1 q2.1 q2.2
  | .slc a lo hi, env, S => (evE C a env S).bind fun q => (evO C lo env q.2).bind fun q2 => (evO C hi env q2.2).bind fun q3 => slcOp q.1 q2.1 q3.1 q3.2
  | .att a f, env, S => (evE C a env S).bind fun q => attOp C.g.fld q.1 f q.2
  | .call f l, env, S => (evL C l env S).bind fun q => if C.g.fn f = true then C.call f q.1 q.2 else .no
  | .make f l, env, S => (evL C l env S).bind fun q => if C.g.fn f = true then C.call f q.1 q.2 else .no
  | .meth a m l, env, S => (evE C a env S).bind fun q => match clsOf m q.1 q.2 with
    | some c => if C.g.met c m = true then (evL C l env q.2).bind fun q2 => C.call (c ++ "." ++ m) (q.1 :: q2.1) q2.2 else .no
    | none => .no
  | .bm m a l, env, S => (evE C a env S).bind fun q => if bmTy m q.1 q.2 = true then (evL C l env q.2).bind fun q2 => bmOp m q.1 q2.1 q2.2 else .no
  | .bf f l, env, S => (evL C l env S).bind fun q => match viewL q.1 q.2 with
    | some ps => match bfOp f ps with
      | some p => .ok (.v p, q.2)
      | none => .no
    | none => .no
  | .listC a, env, S => (evE C a env S).bind fun q => match q.1.view q.2 with
    | some (.lst xs) => alloc (.lst (xs.map .v)) q.2
    | some (.tup xs) => alloc (.lst (xs.map .v)) q.2
    | some (.scr ns) => alloc (.lst (ns.map fun i => .v (.int i))) q.2
    | _ => .no
  | .listItems cell a, env, S => (evE C a env S).bind fun q => match q.1.view q.2 with
    | some (.dct kvs) => if cell = true then alloc (.lst ((kvs.map fun z => .tup [kP z.1, z.2]).map .v)) q.2 else .ok (.v (.lst (kvs.map fun z => .tup [kP z.1, z.2])), q.2)
    | _ => .no
  | .mx l, env, S => (evL C l env S).bind fun q => match viewL q.1 q.2 with
    | some ps => match bfOp .max2 ps with
      | some p => .ok (.v p, q.2)
      | none => .no
    | none => .no
  | .has neg a b, env, S => (evE C a env S).bind fun q => (evE C b env q.2).bind fun q2 => match clsOf "__contains__" q2.1 q2.2 with
    | some c => if C.g.met c "__contains__" = true then (C.call (c ++ "." ++ "__contains__") [q2.1, q.1] q2.2).bind fun r => match r.1 with
        | .v (.bl k) => .ok (.v (.bl (if neg = true then !k else k)), r.2)
        | _ => .no
      else .no
    | none => .no
  | .fstr l, env, S => (evJ C l env S Str.empty).bind fun q => .ok (.v (.str q.1), q.2)
  | .pf f a, env, S => (evE C a env S).bind fun q => match q.1.view q.2 with
    | some x => match pfOp f x with
      | some p => .ok (.v p, q.2)
      | none => .no
    | none => .no
  | .get a k, env, S => (evE C a env S).bind fun q => if isDct q.1 q.2 = true then (evE C k env q.2).bind fun q2 => getOp q.1 q2.1 (.v .non) q2.2 else .no
  | .get2 a k d, env, S => (evE C a env S).bind fun q => if isDct q.1 q.2 = true then (evE C k env q.2).bind fun q2 => (evE C d env q2.2).bind fun q3 => getOp q.1 q2.1 q3.1 q3.2 else .no
  | _, _, _ => .no
def evL (C : Cn) : E → Env → Cells → R (List W × Cells)
  | .nil, _, S => .ok ([], S)
  | .cons a l, env, S => (evE C a env S).bind fun q => (evL C l env q.2).bind fun q2 => .ok (q.1 :: q2.1, q2.2)
  | .star a l, env, S => (evE C a env S).bind fun q => match q.1.view q.2 with
    | some (.lst xs) => (evL C l env q.2).bind fun q2 => .ok (xs.map .v ++ q2.1, q2.2)
    | some (.tup xs) => (evL C l env q.2).bind fun q2 => .ok (xs.map .v ++ q2.1, q2.2)
    | some (.dct kvs) => (evL C l env q.2).bind fun q2 => .ok ((kvs.map fun z => .v (kP z.1)) ++ q2.1, q2.2)
    | _ => .no
  | _, _, _ => .no
def evK (C : Cn) : E → Env → Cells → R (List (Key × W) × Cells)
  | .nil, _, S => .ok ([], S)
  | .kv k v l, env, S => (evE C k env S).bind fun q => (evE C v env q.2).bind fun q2 => (evK C l env q2.2).bind fun q3 => match q.1 with
    | .v p => match keyOf p with
      | some k => (freeze q3.2 q2.1).bind fun z => .ok ((k, .v z.1) :: q3.1, z.2)
      | none => .no
    | _ => .no
  | _, _, _ => .no
def evI (C : Cn) : E → Env → Cells → R (Iter × Cells)
  | .it a, env, S => (evE C a env S).bind fun q => (itemsOf q.1 q.2).bind fun z => .ok (z, q.2)
  | .rng l, env, S => (evL C l env S).bind fun q => (rngOf q.1).bind fun z => .ok (z, q.2)
  | .vals a, env, S => (evE C a env S).bind fun q => match q.1 with
    | .v (.dct kvs) => .ok (.st (kvs.map fun z => .v z.2), q.2)
    | _ => .no
  | .items a, env, S => (evE C a env S).bind fun q => match q.1 with
    | .v (.dct kvs) => .ok (.st (kvs.map fun z => .v (.tup [kP z.1, z.2])), q.2)
    | _ => .no
  | _, _, _ => .no
def evJ (C : Cn) : E → Env → Cells → Str → R (Str × Cells)
  | .nil, _, S, acc => .ok (acc, S)
  | .star a l, env, S, acc => (evE C a env S).bind fun q => match q.1 with
    | .v (.str s) => if acc.length + s.length ≤ lim then evJ C l env q.2 (acc ++ s) else .no
    | _ => .no
  | .cons a l, env, S, acc => (evE C a env S).bind fun q => match q.1 with
    | .v (.str s) => if acc.length + s.length ≤ lim then evJ C l env q.2 (acc ++ s) else .no
    | .v (.int i) => if i.natAbs.log2 < 1920 ∧ acc.length + (Str.ofString (toString i)).length ≤ lim then evJ C l env q.2 (acc ++ Str.ofString (toString i)) else .no
    | _ => .no
  | _, _, _, _ => .no
def evO (C : Cn) : E → Env → Cells → R (Option Int × Cells)
  | .nil, _, S => .ok (none, S)
  | .cons a _, env, S => (evE C a env S).bind fun q => match q.1 with
    | .v (.int i) => .ok (some i, q.2)
    | _ => .no
  | _, _, _ => .no
def evIf (C : Cn) : E → Env → Cells → R (Bool × Cells)
  | .nil, _, S => .ok (true, S)
  | .cons a _, env, S => testOf (evE C a env S)
  | _, _, _ => .no
end
def evT (C : Cn) (t : E) (env : Env) (S : Cells) : R (Bool × Cells) := testOf (evE C t env S)

/-! ### statements -/
inductive RS where
  | nx (env : Env) (S : Cells) | ret (w : W) (S : Cells) | bk (env : Env) (S : Cells) | ct (env : Env) (S : Cells)
  | ex (c : Str) (fs : List (Str × P)) (env : Env) (S : Cells) | no
def lift {α : Type} (env : Env) (m : R α) (k : α → RS) : RS := match m with
  | .ok a => k a
  | .ex c fs S => .ex c fs env S
  | .no => .no
def forL (body : Env → Cells → RS) (tg : Tg) : List W → Env → Cells → RS
  | [], env, S => .nx env S
  | x :: xs, env, S => match setTg tg x env with
    | some env => match body env S with
      | .nx e s => forL body tg xs e s
      | .ct e s => forL body tg xs e s
      | .bk e s => .nx e s
      | r => r
    | none => .no
def forC (body : Env → Cells → RS) (tg : Tg) (n : Nat) : Nat → Nat → Env → Cells → RS
  | 0, _, _, _ => .no
  | fu + 1, i, env, S => match S[n]? with
    | some (.lst xs) => match xs[i]? with
      | some x => match setTg tg x env with
        | some env => match body env S with
          | .nx e s => forC body tg n fu (i + 1) e s
          | .ct e s => forC body tg n fu (i + 1) e s
          | .bk e s => .nx e s
          | r => r
        | none => .no
      | none => .nx env S
    | _ => .no
def whileN (test : Env → Cells → R (Bool × Cells)) (body : Env → Cells → RS) : Nat → Env → Cells → RS
  | 0, _, _ => .no
  | fu + 1, env, S => lift env (test env S) fun q => if q.1 = true then match body env q.2 with
      | .nx e s => whileN test body fu e s
      | .ct e s => whileN test body fu e s
      | .bk e s => .nx e s
      | r => r
    else .nx env q.2
def setSub (o i w : W) (S : Cells) : R Cells := match o, i with
  | .c n, .v p => match S[n]?, p with
    | some (.lst xs), .int i => match ixN xs.length i with
      | some j => write n (.lst (xs.set j w)) S
      | none => .no
    | some (.dct kvs), p => match keyOf p with
      | some k => if kvs.length < lim then write n (.dct (setK kvs k w)) S else .no
      | none => .no
    | _, _ => .no
  | _, _ => .no
def setFld (fl : Str → Str → Bool) (o : W) (f : Str) (w : W) (S : Cells) : R Cells := match o with
  | .c n => match S[n]? with
    | some (.ins c fs) => if fs.length < 100 ∧ fl c f = true then write n (.ins c (setF f w fs)) S else .no
    | _ => .no
  | _ => .no
def exS (C : Cn) : S → Env → Cells → RS
  | .nil, env, S => .nx env S
  | .cons a r, env, S => match exS C a env S with
    | .nx e s => exS C r e s
    | q => q
  | .expr e, env, S => lift env (evE C e env S) fun q => .nx env q.2
  | .ret e, env, S => lift env (evE C e env S) fun q => .ret q.1 q.2
  | .pass, env, S => .nx env S
  | .set i e, env, S => lift env (evE C e env S) fun q => .nx (env.set i (some q.1)) q.2
  | .setT is e, env, S => lift env (evE C e env S) fun q => match setTg (.tup is) q.1 env with
    | some env => .nx env q.2
    | none => .no
  | .par is l, env, S => lift env (evL C l env S) fun q => match setMany env is q.1 with
    | some env => .nx env q.2
    | none => .no
  | .sub o i e, env, S => lift env (evE C e env S) fun q => lift env (evE C o env q.2) fun q1 => lift env (evE C i env q1.2) fun q2 => lift env (setSub q1.1 q2.1 q.1 q2.2) fun S => .nx env S
  | .fld o f e, env, S => lift env (evE C e env S) fun q => lift env (evE C o env q.2) fun q1 => lift env (setFld C.g.fld q1.1 f q.1 q1.2) fun S => .nx env S
  | .aug i o e, env, S => match env[i]? with
    | some (some w) => lift env (evE C e env S) fun q => lift env (binOp o w q.1 q.2) fun z => .nx (env.set i (some z.1)) z.2
    | _ => .no
  | .ite t a b, env, S => lift env (evT C t env S) fun q => if q.1 = true then exS C a env q.2 else exS C b env q.2
  | .whl t b, env, S => whileN (evT C t) (exS C b) C.g.fu env S
  | .for_ tg it b, env, S => lift env (evI C it env S) fun q => match q.1 with
    | .st xs => forL (exS C b) tg xs env q.2
    | .cl n => forC (exS C b) tg n C.g.fu 0 env q.2
  | .brk, env, S => .bk env S
  | .cnt, env, S => .ct env S
  | _, _, _ => .no

/-! ### defs -/
inductive Fn where
  /-- a def: slots, parameters, their last defaults, its body, whether what it makes is handed out as a cell -/
  | fn (n np : Nat) (dfl : List P) (body : S) (own : Bool)
  /-- a class whose instances do not change behind __init__ -/
  | cls (init : Str)
def fillA (np : Nat) (dfl : List P) (args : List W) : Option (List W) :=
  if args.length ≤ np ∧ np ≤ args.length + dfl.length then some (args ++ (dfl.drop (args.length + dfl.length - np)).map .v) else none
def startE (n : Nat) (args : List W) : Env := args.map some ++ List.replicate (n - args.length) none
def fnEnd (own : Bool) (k : Nat) (w : W) (S : Cells) : R (W × Cells) := match w with
  | .v p => .ok (.v p, S.take k)
  | .c n => if n < k then .ok (.c n, S.take k) else match S[n]? with
    | some c => match c.view with
      | some p => if own = true then .ok (.c k, S.take k ++ [c]) else .ok (.v p, S.take k)
      | none => .no
    | none => .no
def callF (T : Str → Option Fn) (g : Gm) : Nat → Str → List W → Cells → R (W × Cells)
  | 0, _, _, _ => .no
  | d + 1, f, args, S => match T f with
    | some (.fn n np dfl body own) => match fillA np dfl args with
      | some args => match exS ⟨callF T g d, g⟩ body (startE n args) S with
        | .ret w S1 => fnEnd own S.length w S1
        | .nx _ S1 => fnEnd own S.length (.v .non) S1
        | .ex c fs _ S1 => .ex c fs (S1.take S.length)
        | _ => .no
      | none => .no
    | some (.cls init) => match callF T g d init (.c S.length :: args) (S ++ [.ins f []]) with
      | .ok (.v .non, S1) => finC false S.length S1
      | .ok _ => .no
      | .ex c fs S1 => .ex c fs (S1.take S.length)
      | .no => .no
    | none => .no
end LS

set_option Elab.async false
set_option linter.all false
set_option maxRecDepth 100000
/-! LS2: plain data and cells as they stand in the abstract heap. -/
namespace LS
open PySem PySem.Spec PyProof.Rows L2

def coreO : HO → HO
  | .frz o (.dK k) => .dK k
  | o => o
theorem core_lst {o : HO} {xs : List V} (h : coreO o = .lst xs) : o = .lst xs := by
  unfold coreO at h
  split at h
  · cases h
  · exact h
theorem core_tup {o : HO} {xs : List V} (h : coreO o = .tup xs) : o = .tup xs := by
  unfold coreO at h
  split at h
  · cases h
  · exact h
theorem core_ins {o : HO} {C dx : Addr} {fs : List (Str × V)} (h : coreO o = .ins C dx fs) : o = .ins C dx fs := by
  unfold coreO at h
  split at h
  · cases h
  · exact h
theorem core_frz {o u : HO} {ob : Obj} (h : coreO o = .frz ob u) : o = .frz ob u := by
  unfold coreO at h
  split at h
  · cases h
  · exact h
/-- what stands in F stands in F' (a dict may be locked or not) -/
def LeC (F F' : Hp) : Prop := ∀ a o, F a = some o → ∃ o', F' a = some o' ∧ coreO o' = coreO o
theorem LeC.refl (F : Hp) : LeC F F := fun _ o e => ⟨o, e, rfl⟩
theorem LeC.trans {F G H : Hp} (a : LeC F G) (b : LeC G H) : LeC F H := fun x o e => by
  obtain ⟨o1, e1, c1⟩ := a x o e
  obtain ⟨o2, e2, c2⟩ := b x o1 e1
  exact ⟨o2, e2, c2.trans c1⟩
theorem LeC.noneOf {F G : Hp} (a : LeC F G) {x : Addr} (h : G x = none) : F x = none := by
  cases e : F x with
  | none => rfl
  | some o =>
    obtain ⟨o1, e1, _⟩ := a x o e
    rw [h] at e1
    cases e1
theorem LeC.upd {F : Hp} {p : Addr} {o : HO} (h : F p = none) : LeC F (upd F p o) := fun x u e => ⟨u, by rw [upd_ne (ne_of_none e h)]; exact e, rfl⟩
theorem LeC.upd2 {F G : Hp} (a : LeC F G) {p : Addr} {o : HO} : LeC (L2.upd F p o) (L2.upd G p o) := fun x u e => by
  by_cases h : x = p
  · subst h
    rw [upd_same] at e
    cases e
    exact ⟨o, upd_same, rfl⟩
  · rw [upd_ne h] at e
    rw [upd_ne h]
    exact a x u e
/-- something else is written -/
theorem LeC.right {F G : Hp} (a : LeC F G) {p : Addr} {o : HO} (h : F p = Option.none) : LeC F (L2.upd G p o) := fun x u e => by
  rw [upd_ne (ne_of_none e h)]
  exact a x u e
theorem LeC.sqL {K : PySem.W.Frag} {F G : Hp} (a : LeC F G) {p : Addr} {xs : List V} (h : SqL K F p xs) : SqL K G p xs := by
  rcases h with h | h
  · left
    rcases h with h | ⟨o, h⟩
    · obtain ⟨o1, e1, c1⟩ := a p _ h
      left
      rw [e1, core_lst (xs := xs) c1]
    · obtain ⟨o1, e1, c1⟩ := a p _ h
      right
      exact ⟨o, by rw [e1, core_frz (u := .lst xs) (ob := o) c1]⟩
  · exact .inr h
theorem LeC.sqT {K : PySem.W.Frag} {F G : Hp} (a : LeC F G) {p : Addr} {xs : List V} (h : SqT K F p xs) : SqT K G p xs := by
  rcases h with h | h
  · left
    rcases h with h | ⟨o, h⟩
    · obtain ⟨o1, e1, c1⟩ := a p _ h
      left
      rw [e1, core_tup (xs := xs) c1]
    · obtain ⟨o1, e1, c1⟩ := a p _ h
      right
      exact ⟨o, by rw [e1, core_frz (u := .tup xs) (ob := o) c1]⟩
  · exact .inr h

/-! ### plain data -/
mutual
def RepP (K : PySem.W.Frag) (F : Hp) : P → V → Prop
  | .non, v => v = .non
  | .bl b, v => v = .bl b
  | .int i, v => v = .int i
  | .str s, v => v = .str s
  | .scr ns, v => ∃ a, v = .ref a ∧ SqL K F a (ns.map V.int) ∧ ns.length ≤ sizeLine
  | .lst xs, v => ∃ a vs, v = .ref a ∧ F a = some (.lst vs) ∧ RepPs K F xs vs ∧ vs.length ≤ sizeLine
  | .tup xs, v => ∃ a vs, v = .ref a ∧ SqT K F a vs ∧ RepPs K F xs vs ∧ vs.length ≤ sizeLine
  | .dct kvs, v => ∃ a kvs' o, v = .ref a ∧ F a = some o ∧ coreO o = .dK kvs' ∧ RepPk K F kvs kvs' ∧ kvs'.length ≤ sizeLine
  | .obj c fs, v => ∃ a dx fs', v = .ref a ∧ F a = some (.ins (He.ga K c) dx fs') ∧ RepPf K F fs fs'
def RepPs (K : PySem.W.Frag) (F : Hp) : List P → List V → Prop
  | [], vs => vs = []
  | x :: xs, vs => ∃ v r, vs = v :: r ∧ RepP K F x v ∧ RepPs K F xs r
def RepPk (K : PySem.W.Frag) (F : Hp) : List (Key × P) → List (Key × V) → Prop
  | [], vs => vs = []
  | (k, x) :: xs, vs => ∃ v r, vs = (k, v) :: r ∧ RepP K F x v ∧ RepPk K F xs r
def RepPf (K : PySem.W.Frag) (F : Hp) : List (Str × P) → List (Str × V) → Prop
  | [], vs => vs = []
  | (k, x) :: xs, vs => ∃ v r, vs = (k, v) :: r ∧ RepP K F x v ∧ RepPf K F xs r
end
mutual
theorem RepP.monoC {K : PySem.W.Frag} {F G : Hp} (h : LeC F G) : ∀ (p : P) {v : V}, RepP K F p v → RepP K G p v
  | .non, v, q => by unfold RepP at *; exact q
  | .bl b, v, q => by unfold RepP at *; exact q
  | .int i, v, q => by unfold RepP at *; exact q
  | .str s, v, q => by unfold RepP at *; exact q
  | .scr ns, v, q => by
    unfold RepP at *
    obtain ⟨a, e, s, z⟩ := q
    exact ⟨a, e, h.sqL s, z⟩
  | .lst xs, v, q => by
    unfold RepP at *
    obtain ⟨a, vs, e, s, r, z⟩ := q
    obtain ⟨o', f', c'⟩ := h a _ s
    exact ⟨a, vs, e, by rw [f', core_lst (xs := vs) c'], RepPs.monoC h xs r, z⟩
  | .tup xs, v, q => by
    unfold RepP at *
    obtain ⟨a, vs, e, s, r, z⟩ := q
    exact ⟨a, vs, e, h.sqT s, RepPs.monoC h xs r, z⟩
  | .dct kvs, v, q => by
    unfold RepP at *
    obtain ⟨a, kvs', o, e, f, c, r, z⟩ := q
    obtain ⟨o', f', c'⟩ := h a o f
    exact ⟨a, kvs', o', e, f', c'.trans c, RepPk.monoC h kvs r, z⟩
  | .obj c fs, v, q => by
    unfold RepP at *
    obtain ⟨a, dx, fs', e, f, r⟩ := q
    obtain ⟨o', f', c'⟩ := h a _ f
    exact ⟨a, dx, fs', e, by rw [f', core_ins (C := He.ga K c) (dx := dx) (fs := fs') c'], RepPf.monoC h fs r⟩
theorem RepPs.monoC {K : PySem.W.Frag} {F G : Hp} (h : LeC F G) : ∀ (p : List P) {v : List V}, RepPs K F p v → RepPs K G p v
  | [], v, q => by unfold RepPs at *; exact q
  | x :: xs, v, q => by
    unfold RepPs at *
    obtain ⟨a, r, e, h1, h2⟩ := q
    exact ⟨a, r, e, RepP.monoC h x h1, RepPs.monoC h xs h2⟩
theorem RepPk.monoC {K : PySem.W.Frag} {F G : Hp} (h : LeC F G) : ∀ (p : List (Key × P)) {v : List (Key × V)}, RepPk K F p v → RepPk K G p v
  | [], v, q => by unfold RepPk at *; exact q
  | (k, x) :: xs, v, q => by
    unfold RepPk at *
    obtain ⟨a, r, e, h1, h2⟩ := q
    exact ⟨a, r, e, RepP.monoC h x h1, RepPk.monoC h xs h2⟩
theorem RepPf.monoC {K : PySem.W.Frag} {F G : Hp} (h : LeC F G) : ∀ (p : List (Str × P)) {v : List (Str × V)}, RepPf K F p v → RepPf K G p v
  | [], v, q => by unfold RepPf at *; exact q
  | (k, x) :: xs, v, q => by
    unfold RepPf at *
    obtain ⟨a, r, e, h1, h2⟩ := q
    exact ⟨a, r, e, RepP.monoC h x h1, RepPf.monoC h xs h2⟩
end

/-- what stands in F stands in F' -/
def LeF (F F' : Hp) : Prop := ∀ a o, F a = some o → F' a = some o
theorem LeF.c {F G : Hp} (h : LeF F G) : LeC F G := fun a o e => ⟨o, h a o e, rfl⟩
theorem LeF.refl (F : Hp) : LeF F F := fun _ _ e => e
theorem LeF.trans {F G H : Hp} (a : LeF F G) (b : LeF G H) : LeF F H := fun x o e => b x o (a x o e)
theorem LeF.noneOf {F G : Hp} (a : LeF F G) {x : Addr} (h : G x = none) : F x = none := a.c.noneOf h
theorem LeF.upd {F : Hp} {p : Addr} {o : HO} (h : F p = none) : LeF F (upd F p o) := fun x u e => by rw [upd_ne (ne_of_none e h)]; exact e
theorem LeF.upd2 {F G : Hp} (a : LeF F G) {p : Addr} {o : HO} : LeF (L2.upd F p o) (L2.upd G p o) := fun x u e => by
  by_cases h : x = p
  · subst h
    rw [upd_same] at e ⊢
    exact e
  · rw [upd_ne h] at e ⊢
    exact a x u e
theorem LeF.right {F G : Hp} (a : LeF F G) {p : Addr} {o : HO} (h : F p = Option.none) : LeF F (L2.upd G p o) := fun x u e => by
  rw [upd_ne (ne_of_none e h)]
  exact a x u e
theorem LeF.sqL {K : PySem.W.Frag} {F G : Hp} (a : LeF F G) {p : Addr} {xs : List V} (h : SqL K F p xs) : SqL K G p xs := a.c.sqL h
theorem LeF.sqT {K : PySem.W.Frag} {F G : Hp} (a : LeF F G) {p : Addr} {xs : List V} (h : SqT K F p xs) : SqT K G p xs := a.c.sqT h
/-- .. but a dict may have been locked -/
def LeL (F F' : Hp) : Prop := ∀ a o, F a = some o → F' a = some o ∨ ∃ k ob, o = .dK k ∧ F' a = some (.frz ob (.dK k))
theorem LeF.l {F G : Hp} (h : LeF F G) : LeL F G := fun a o e => .inl (h a o e)
theorem LeL.refl (F : Hp) : LeL F F := fun _ _ e => .inl e
theorem LeL.c {F G : Hp} (h : LeL F G) : LeC F G := fun a o e => by
  rcases h a o e with h | ⟨k, ob, rfl, h⟩
  · exact ⟨o, h, rfl⟩
  · exact ⟨_, h, rfl⟩
theorem LeL.trans {F G H : Hp} (a : LeL F G) (b : LeL G H) : LeL F H := fun x o e => by
  rcases a x o e with h | ⟨k, ob, rfl, h⟩
  · exact b x o h
  · rcases b x _ h with h' | ⟨k', ob', e', h'⟩
    · exact .inr ⟨k, ob, rfl, h'⟩
    · cases e'
theorem RepP.mono {K : PySem.W.Frag} {F G : Hp} (h : LeL F G) (p : P) {v : V} (q : RepP K F p v) : RepP K G p v := RepP.monoC h.c p q
theorem RepPs.mono {K : PySem.W.Frag} {F G : Hp} (h : LeL F G) (p : List P) {v : List V} (q : RepPs K F p v) : RepPs K G p v := RepPs.monoC h.c p q
theorem RepPk.mono {K : PySem.W.Frag} {F G : Hp} (h : LeL F G) (p : List (Key × P)) {v : List (Key × V)} (q : RepPk K F p v) : RepPk K G p v := RepPk.monoC h.c p q
theorem RepPf.mono {K : PySem.W.Frag} {F G : Hp} (h : LeL F G) (p : List (Str × P)) {v : List (Str × V)} (q : RepPf K F p v) : RepPf K G p v := RepPf.monoC h.c p q

/-! ### values, cells -/
structure Wd where
  ρ : List Addr
  F : Hp
def RepW (K : PySem.W.Frag) (w : Wd) : W → V → Prop
  | .v p, v => RepP K w.F p v
  | .c n, v => ∃ a, w.ρ[n]? = some a ∧ v = .ref a
abbrev RepWs (K : PySem.W.Frag) (w : Wd) : List W → List V → Prop := Paired (RepW K w)
abbrev RepWk {κ : Type} (K : PySem.W.Frag) (w : Wd) : List (κ × W) → List (κ × V) → Prop := Paired fun p q => p.1 = q.1 ∧ RepW K w p.2 q.2
def CellAt (K : PySem.W.Frag) (w : Wd) (H : Hp) (a : Addr) : Cell → Prop
  | .lst ws => ∃ vs, H a = some (.lst vs) ∧ RepWs K w ws vs ∧ vs.length ≤ sizeLine
  | .dct kvs => ∃ kvs', H a = some (.dK kvs') ∧ RepWk K w kvs kvs' ∧ kvs'.length ≤ sizeLine
  | .ins c fs => ∃ dx fs', H a = some (.ins (He.ga K c) dx fs') ∧ RepWk K w fs fs'
  | .dead => True
def LeW (w w' : Wd) : Prop := w.ρ <+: w'.ρ ∧ LeL w.F w'.F
theorem LeW.refl (w : Wd) : LeW w w := ⟨List.prefix_refl _, LeL.refl _⟩
theorem LeW.trans {a b c : Wd} (h : LeW a b) (k : LeW b c) : LeW a c := ⟨h.1.trans k.1, h.2.trans k.2⟩
theorem RepW.mono {K : PySem.W.Frag} {w w' : Wd} (h : LeW w w') : ∀ {x : W} {v : V}, RepW K w x v → RepW K w' x v
  | .v p, v, q => RepP.mono h.2 p q
  | .c n, v, ⟨a, e, z⟩ => ⟨a, by
      obtain ⟨t, ht⟩ := h.1
      rw [← ht, List.getElem?_append_left (List.getElem?_eq_some_iff.mp e).1]
      exact e, z⟩
theorem RepWs.mono {K : PySem.W.Frag} {w w' : Wd} (h : LeW w w') {x : List W} {v : List V} (q : RepWs K w x v) : RepWs K w' x v := Paired.mapP q fun _ _ z => z.mono h
theorem RepWk.mono {κ : Type} {K : PySem.W.Frag} {w w' : Wd} (h : LeW w w') {x : List (κ × W)} {v : List (κ × V)} (q : RepWk K w x v) : RepWk K w' x v := Paired.mapP q fun _ _ z => ⟨z.1, z.2.mono h⟩

structure HRel (K : PySem.W.Frag) (S : Cells) (w : Wd) (H : Hp) : Prop where
  le : LeF w.F H
  len : w.ρ.length = S.length
  inj : w.ρ.Nodup
  wf : ∀ (n : Nat) (c : Cell), S[n]? = some c → Cell.lows n c = true
  cell : ∀ (n : Nat) (c : Cell) (a : Addr), S[n]? = some c → w.ρ[n]? = some a → c = .dead ∨ (w.F a = none ∧ CellAt K w H a c)
  trk : ∀ (n : Nat) (a : Addr), w.ρ[n]? = some a → ∃ o, H a = some o
def EnvRel (K : PySem.W.Frag) (w : Wd) (env : Env) (σ : L2.St) : Prop := env.length ≤ σ.length ∧ ∀ (i : Nat) (x : W), env[i]? = some (some x) → ∃ v, σ[i]? = some (some v) ∧ RepW K w x v
theorem EnvRel.mono {K : PySem.W.Frag} {w w' : Wd} (h : LeW w w') {env : Env} {σ : L2.St} (q : EnvRel K w env σ) : EnvRel K w' env σ := ⟨q.1, fun i x e => by
  obtain ⟨v, h1, h2⟩ := q.2 i x e
  exact ⟨v, h1, h2.mono h⟩⟩
theorem EnvRel.set {K : PySem.W.Frag} {w : Wd} {env : Env} {σ : L2.St} (q : EnvRel K w env σ) {i : Nat} {x : W} {v : V} (r : RepW K w x v) : EnvRel K w (env.set i (some x)) (σ.set i (some v)) := by
  refine ⟨by simpa using q.1, fun j y e => ?_⟩
  by_cases h : j = i
  · subst h
    have hl : j < env.length := by
      have := (List.getElem?_eq_some_iff.mp e).1
      simpa using this
    rw [List.getElem?_set_self hl] at e
    cases e
    exact ⟨v, by rw [List.getElem?_set_self (Nat.lt_of_lt_of_le hl q.1)], r⟩
  · rw [List.getElem?_set_ne (Ne.symm h)] at e
    rw [List.getElem?_set_ne (Ne.symm h)]
    exact q.2 j y e
theorem EnvRel.wipe {K : PySem.W.Frag} {w : Wd} {env : Env} {σ : L2.St} (q : EnvRel K w env σ) : ∀ is : List Nat, EnvRel K w (wipeE env is) (L2.wipe σ is)
  | [] => q
  | i :: is => by
    have ih := EnvRel.wipe q is
    refine ⟨by simpa [wipeE, L2.wipe] using ih.1, fun j y e => ?_⟩
    unfold wipeE at e
    unfold L2.wipe
    by_cases h : j = i
    · subst h
      have hl : j < (wipeE env is).length := by
        have := (List.getElem?_eq_some_iff.mp e).1
        simpa using this
      rw [List.getElem?_set_self hl] at e
      cases e
    · rw [List.getElem?_set_ne (Ne.symm h)] at e
      rw [List.getElem?_set_ne (Ne.symm h)]
      exact ih.2 j y e
/-- an exception behind which the fields fs stand -/
def ExAt (K : PySem.W.Frag) (w : Wd) (H : Hp) (fs : List (Str × P)) (d : Addr) : Prop := ∃ fs', H d = some (.xd fs') ∧ RepPf K w.F fs fs' ∧ w.F d = none ∧ d ∉ w.ρ

/-- a thing whose top stands in H, its parts in F -/
def RepT (K : PySem.W.Frag) (F H : Hp) : P → V → Prop
  | .scr ns, v => ∃ a, v = .ref a ∧ SqL K H a (ns.map V.int) ∧ ns.length ≤ sizeLine
  | .lst xs, v => ∃ a vs, v = .ref a ∧ H a = some (.lst vs) ∧ RepPs K F xs vs ∧ vs.length ≤ sizeLine
  | .tup xs, v => ∃ a vs, v = .ref a ∧ SqT K H a vs ∧ RepPs K F xs vs ∧ vs.length ≤ sizeLine
  | .dct kvs, v => ∃ a kvs' o, v = .ref a ∧ H a = some o ∧ coreO o = .dK kvs' ∧ RepPk K F kvs kvs' ∧ kvs'.length ≤ sizeLine
  | .obj c fs, v => ∃ a dx fs', v = .ref a ∧ H a = some (.ins (He.ga K c) dx fs') ∧ RepPf K F fs fs'
  | p, v => RepP K F p v
theorem RepP.top {K : PySem.W.Frag} {F H : Hp} (h : LeF F H) : ∀ {p : P} {v : V}, RepP K F p v → RepT K F H p v
  | .non, _, q => q
  | .bl _, _, q => q
  | .int _, _, q => q
  | .str _, _, q => q
  | .scr ns, v, q => by
    unfold RepP at q
    obtain ⟨a, e, s, z⟩ := q
    exact ⟨a, e, h.sqL s, z⟩
  | .lst xs, v, q => by
    unfold RepP at q
    obtain ⟨a, vs, e, s, r, z⟩ := q
    exact ⟨a, vs, e, h a _ s, r, z⟩
  | .tup xs, v, q => by
    unfold RepP at q
    obtain ⟨a, vs, e, s, r, z⟩ := q
    exact ⟨a, vs, e, h.sqT s, r, z⟩
  | .dct kvs, v, q => by
    unfold RepP at q
    obtain ⟨a, kvs', o, e, f, c, r, z⟩ := q
    exact ⟨a, kvs', o, e, h a o f, c, r, z⟩
  | .obj c fs, v, q => by
    unfold RepP at q
    obtain ⟨a, dx, fs', e, f, r⟩ := q
    exact ⟨a, dx, fs', e, h a _ f, r⟩
theorem RepT.all {K : PySem.W.Frag} {F H : Hp} (h : LeF F H) : ∀ {p : P} {v : V}, RepT K F H p v → RepP K H p v
  | .non, _, q => RepP.mono h.l _ q
  | .bl _, _, q => RepP.mono h.l _ q
  | .int _, _, q => RepP.mono h.l _ q
  | .str _, _, q => RepP.mono h.l _ q
  | .scr ns, v, ⟨a, e, s, z⟩ => by
    unfold RepP
    exact ⟨a, e, s, z⟩
  | .lst xs, v, ⟨a, vs, e, s, r, z⟩ => by
    unfold RepP
    exact ⟨a, vs, e, s, RepPs.mono h.l xs r, z⟩
  | .tup xs, v, ⟨a, vs, e, s, r, z⟩ => by
    unfold RepP
    exact ⟨a, vs, e, s, RepPs.mono h.l xs r, z⟩
  | .dct kvs, v, ⟨a, kvs', o, e, f, c, r, z⟩ => by
    unfold RepP
    exact ⟨a, kvs', o, e, f, c, RepPk.mono h.l kvs r, z⟩
  | .obj c fs, v, ⟨a, dx, fs', e, f, r⟩ => by
    unfold RepP
    exact ⟨a, dx, fs', e, f, RepPf.mono h.l fs r⟩
theorem RepPs.len {K : PySem.W.Frag} {F : Hp} : ∀ {xs : List P} {vs : List V}, RepPs K F xs vs → xs.length = vs.length
  | [], vs, q => by unfold RepPs at q; subst q; rfl
  | x :: xs, vs, q => by
    unfold RepPs at q
    obtain ⟨v, r, rfl, _, h2⟩ := q
    rw [List.length_cons, List.length_cons, RepPs.len h2]
theorem RepPk.len {K : PySem.W.Frag} {F : Hp} : ∀ {xs : List (Key × P)} {vs : List (Key × V)}, RepPk K F xs vs → xs.length = vs.length
  | [], vs, q => by unfold RepPk at q; subst q; rfl
  | (k, x) :: xs, vs, q => by
    unfold RepPk at q
    obtain ⟨v, r, rfl, _, h2⟩ := q
    rw [List.length_cons, List.length_cons, RepPk.len h2]
theorem RepPs.app {K : PySem.W.Frag} {F : Hp} : ∀ {xs ys : List P} {vs us : List V}, RepPs K F xs vs → RepPs K F ys us → RepPs K F (xs ++ ys) (vs ++ us)
  | [], ys, vs, us, q, r => by unfold RepPs at q; subst q; exact r
  | x :: xs, ys, vs, us, q, r => by
    unfold RepPs at q
    obtain ⟨v, t, rfl, h1, h2⟩ := q
    show RepPs K F (x :: (xs ++ ys)) (v :: (t ++ us))
    unfold RepPs
    exact ⟨v, _, rfl, h1, RepPs.app h2 r⟩
theorem RepPs.get {K : PySem.W.Frag} {F : Hp} : ∀ {xs : List P} {vs : List V} {i : Nat} {p : P}, RepPs K F xs vs → xs[i]? = some p → ∃ v, vs[i]? = some v ∧ RepP K F p v
  | [], vs, i, p, q, e => by simp at e
  | x :: xs, vs, 0, p, q, e => by
    unfold RepPs at q
    obtain ⟨v, t, rfl, h1, h2⟩ := q
    simp at e
    subst e
    exact ⟨v, rfl, h1⟩
  | x :: xs, vs, i + 1, p, q, e => by
    unfold RepPs at q
    obtain ⟨v, t, rfl, h1, h2⟩ := q
    obtain ⟨u, e1, e2⟩ := RepPs.get (i := i) h2 (by simpa using e)
    exact ⟨u, by simpa using e1, e2⟩
theorem RepPs.drop {K : PySem.W.Frag} {F : Hp} : ∀ {xs : List P} {vs : List V} (n : Nat), RepPs K F xs vs → RepPs K F (xs.drop n) (vs.drop n)
  | xs, vs, 0, q => q
  | [], vs, n + 1, q => by unfold RepPs at q; subst q; unfold RepPs; rfl
  | x :: xs, vs, n + 1, q => by
    unfold RepPs at q
    obtain ⟨v, t, rfl, h1, h2⟩ := q
    exact RepPs.drop n h2
theorem RepPs.take {K : PySem.W.Frag} {F : Hp} : ∀ {xs : List P} {vs : List V} (n : Nat), RepPs K F xs vs → RepPs K F (xs.take n) (vs.take n)
  | xs, vs, 0, q => by simp [RepPs]
  | [], vs, n + 1, q => by unfold RepPs at q; subst q; unfold RepPs; rfl
  | x :: xs, vs, n + 1, q => by
    unfold RepPs at q
    obtain ⟨v, t, rfl, h1, h2⟩ := q
    show RepPs K F (x :: xs.take n) (v :: t.take n)
    unfold RepPs
    exact ⟨v, _, rfl, h1, RepPs.take n h2⟩
theorem RepPk.get {K : PySem.W.Frag} {F : Hp} {k : Key} : ∀ {xs : List (Key × P)} {vs : List (Key × V)}, RepPk K F xs vs → (∀ p, getK xs k = some p → ∃ v, valV vs k = some v ∧ RepP K F p v) ∧ (getK xs k = none → valV vs k = none)
  | [], vs, q => by
    unfold RepPk at q
    subst q
    exact ⟨fun p e => by simp [getK] at e, fun _ => rfl⟩
  | (k0, x) :: xs, vs, q => by
    unfold RepPk at q
    obtain ⟨v, t, rfl, h1, h2⟩ := q
    obtain ⟨g1, g2⟩ := RepPk.get (k := k) h2
    by_cases h : k0 = k
    · have e1 : getK ((k0, x) :: xs) k = some x := by simp [getK, List.find?_cons, h]
      rw [e1, valV_pos h]
      exact ⟨fun p e => by cases e; exact ⟨v, rfl, h1⟩, fun e => by cases e⟩
    · have e1 : getK ((k0, x) :: xs) k = getK xs k := by simp [getK, List.find?_cons, h]
      rw [e1, valV_neg h]
      exact ⟨g1, g2⟩
theorem RepPf.get {K : PySem.W.Frag} {F : Hp} {k : Str} : ∀ {xs : List (Str × P)} {vs : List (Str × V)} {p : P}, RepPf K F xs vs → xs.lookup k = some p → ∃ v, vs.lookup k = some v ∧ RepP K F p v
  | [], vs, p, q, e => by simp at e
  | (k0, x) :: xs, vs, p, q, e => by
    unfold RepPf at q
    obtain ⟨v, t, rfl, h1, h2⟩ := q
    rw [List.lookup_cons] at e ⊢
    cases h : (k == k0) with
    | true =>
      rw [h] at e
      cases e
      exact ⟨v, rfl, h1⟩
    | false =>
      rw [h] at e
      exact RepPf.get h2 e

/-! ### cells and views -/
section
variable {K : PySem.W.Frag} {w : Wd} {H : Hp} {S : Cells}
theorem RepWs.plain : ∀ {ws : List W} {vs : List V} {ps : List P}, RepWs K w ws vs → allP ws = some ps → RepPs K w.F ps vs
  | [], _, ps, .nil, e => by
    cases e
    unfold RepPs
    rfl
  | .v p :: ws, _, ps, .cons r t, e => by
    cases h : allP ws with
    | none => simp [allP, h] at e
    | some qs =>
      simp [allP, h] at e
      subst e
      unfold RepPs
      exact ⟨_, _, rfl, r, RepWs.plain t h⟩
  | .c n :: ws, _, ps, .cons r t, e => by simp [allP] at e
theorem RepWk.plainK : ∀ {ws : List (Key × W)} {vs : List (Key × V)} {ps : List (Key × P)}, RepWk K w ws vs → allKP ws = some ps → RepPk K w.F ps vs
  | [], _, ps, .nil, e => by
    cases e
    unfold RepPk
    rfl
  | (k, .v p) :: ws, _, ps, .cons r t, e => by
    cases h : allKP ws with
    | none => simp [allKP, h] at e
    | some qs =>
      simp [allKP, h] at e
      subst e
      unfold RepPk
      rename_i v vs'
      obtain ⟨k', v'⟩ := v
      obtain ⟨rfl, r2⟩ := r
      exact ⟨_, _, rfl, r2, RepWk.plainK t h⟩
  | (k, .c n) :: ws, _, ps, .cons r t, e => by simp [allKP] at e
theorem RepWk.plainF : ∀ {ws : List (Str × W)} {vs : List (Str × V)} {ps : List (Str × P)}, RepWk K w ws vs → allFP ws = some ps → RepPf K w.F ps vs
  | [], _, ps, .nil, e => by
    cases e
    unfold RepPf
    rfl
  | (k, .v p) :: ws, _, ps, .cons r t, e => by
    cases h : allFP ws with
    | none => simp [allFP, h] at e
    | some qs =>
      simp [allFP, h] at e
      subst e
      unfold RepPf
      rename_i v vs'
      obtain ⟨k', v'⟩ := v
      obtain ⟨rfl, r2⟩ := r
      exact ⟨_, _, rfl, r2, RepWk.plainF t h⟩
  | (k, .c n) :: ws, _, ps, .cons r t, e => by simp [allFP] at e
theorem CellAt.top {a : Addr} : ∀ {c : Cell} {p : P}, CellAt K w H a c → c.view = some p → RepT K w.F H p (.ref a)
  | .lst ws, p, ⟨vs, h, r, z⟩, e => by
    cases q : allP ws with
    | none => simp [Cell.view, q] at e
    | some ps =>
      simp [Cell.view, q] at e
      subst e
      exact ⟨a, vs, rfl, h, r.plain q, z⟩
  | .dct ws, p, ⟨vs, h, r, z⟩, e => by
    cases q : allKP ws with
    | none => simp [Cell.view, q] at e
    | some ps =>
      simp [Cell.view, q] at e
      subst e
      exact ⟨a, vs, _, rfl, h, rfl, r.plainK q, z⟩
  | .ins c ws, p, ⟨dx, vs, h, r⟩, e => by
    cases q : allFP ws with
    | none => simp [Cell.view, q] at e
    | some ps =>
      simp [Cell.view, q] at e
      subst e
      exact ⟨a, dx, vs, rfl, h, r.plainF q⟩
  | .dead, p, _, e => by simp [Cell.view] at e
theorem HRel.at (hr : HRel K S w H) {n : Nat} {c : Cell} (e : S[n]? = some c) : ∃ a, w.ρ[n]? = some a := by
  have h1 := (List.getElem?_eq_some_iff.mp e).1
  rw [← hr.len] at h1
  exact ⟨w.ρ[n], List.getElem?_eq_getElem h1⟩
theorem HRel.view (hr : HRel K S w H) {x : W} {p : P} {v : V} (e : x.view S = some p) (r : RepW K w x v) : RepT K w.F H p v := by
  cases x with
  | v q =>
    cases e
    exact RepP.top hr.le r
  | c n =>
    obtain ⟨a, ha, rfl⟩ := r
    cases h : S[n]? with
    | none => simp [W.view, h] at e
    | some c =>
      simp [W.view, h] at e
      rcases hr.cell n c a h ha with rfl | ⟨_, q⟩
      · simp [Cell.view] at e
      · exact q.top e
theorem HRel.views (hr : HRel K S w H) : ∀ {xs : List W} {ps : List P} {vs : List V}, viewL xs S = some ps → RepWs K w xs vs → Paired (RepT K w.F H) ps vs
  | [], ps, _, e, .nil => by
    cases e
    exact .nil
  | x :: xs, ps, _, e, .cons r t => by
    cases h1 : x.view S with
    | none => simp [viewL, h1] at e
    | some p =>
      cases h2 : viewL xs S with
      | none => simp [viewL, h1, h2] at e
      | some qs =>
        simp [viewL, h1, h2] at e
        subst e
        exact .cons (hr.view h1 r) (hr.views h2 t)
theorem nodup_at {l : List Addr} (h : l.Nodup) {i j : Nat} {a : Addr} (e : l[i]? = some a) (f : l[j]? = some a) : i = j := by
  obtain ⟨h1, e1⟩ := List.getElem?_eq_some_iff.mp e
  obtain ⟨h2, e2⟩ := List.getElem?_eq_some_iff.mp f
  exact (List.getElem_inj h).mp (e1.trans e2.symm)
theorem CellAt.keep {a : Addr} {w' : Wd} {H' : Hp} (hw : LeW w w') (hH : H' a = H a) : ∀ {c : Cell}, CellAt K w H a c → CellAt K w' H' a c
  | .lst ws, ⟨vs, h, r, z⟩ => ⟨vs, by rw [hH]; exact h, r.mono hw, z⟩
  | .dct ws, ⟨vs, h, r, z⟩ => ⟨vs, by rw [hH]; exact h, r.mono hw, z⟩
  | .ins c ws, ⟨dx, vs, h, r⟩ => ⟨dx, vs, by rw [hH]; exact h, r.mono hw⟩
  | .dead, _ => trivial
/-- a new frozen thing -/
theorem HRel.newF (hr : HRel K S w H) {p : Addr} {o : HO} (hp : H p = none) : HRel K S ⟨w.ρ, upd w.F p o⟩ (upd H p o) ∧ LeW w ⟨w.ρ, upd w.F p o⟩ := by
  have hF : w.F p = none := hr.le.noneOf hp
  have lw : LeW w ⟨w.ρ, upd w.F p o⟩ := ⟨List.prefix_refl _, (LeF.upd hF).l⟩
  refine ⟨⟨hr.le.upd2, hr.len, hr.inj, hr.wf, fun n c a e f => ?_, fun n a e => ?_⟩, lw⟩
  · obtain ⟨o', ho⟩ := hr.trk n a f
    have ne : a ≠ p := ne_of_none ho hp
    rcases hr.cell n c a e f with h | ⟨h1, h2⟩
    · exact .inl h
    · exact .inr ⟨by show upd w.F p o a = none; rw [upd_ne ne]; exact h1, h2.keep lw (upd_ne ne)⟩
  · obtain ⟨o', ho⟩ := hr.trk n a e
    exact ⟨o', by rw [upd_ne (ne_of_none ho hp)]; exact ho⟩
/-- a new cell -/
theorem HRel.newC (hr : HRel K S w H) {p : Addr} {o : HO} {c : Cell} (hp : H p = none) (hb : c.lows S.length = true) (hc : CellAt K ⟨w.ρ ++ [p], w.F⟩ (upd H p o) p c) :
    HRel K (S ++ [c]) ⟨w.ρ ++ [p], w.F⟩ (upd H p o) ∧ LeW w ⟨w.ρ ++ [p], w.F⟩ := by
  have hF : w.F p = none := hr.le.noneOf hp
  have lw : LeW w ⟨w.ρ ++ [p], w.F⟩ := ⟨List.prefix_append _ _, LeL.refl _⟩
  have np : p ∉ w.ρ := fun hm => by
    obtain ⟨n, hn⟩ := List.mem_iff_getElem?.mp hm
    obtain ⟨o', ho⟩ := hr.trk n p hn
    rw [hp] at ho
    cases ho
  have split : ∀ (n : Nat) (d : Cell), (S ++ [c])[n]? = some d → (n < S.length ∧ S[n]? = some d) ∨ (n = S.length ∧ d = c) := fun n d e => by
    by_cases h : n < S.length
    · rw [List.getElem?_append_left h] at e
      exact .inl ⟨h, e⟩
    · rw [List.getElem?_append_right (by omega)] at e
      by_cases h2 : n = S.length
      · subst h2
        simp at e
        exact .inr ⟨rfl, e.symm⟩
      · have : n - S.length ≥ 1 := by omega
        rw [List.getElem?_eq_none (by simpa using this)] at e
        cases e
  refine ⟨⟨hr.le.right hF, by simp [hr.len], ?_, fun n d e => ?_, fun n d a e f => ?_, fun n a e => ?_⟩, lw⟩
  · show (w.ρ ++ [p]).Nodup
    rw [List.nodup_append]
    exact ⟨hr.inj, by simp, fun x hx y hy => by
      simp at hy
      subst hy
      exact fun z => np (z ▸ hx)⟩
  · rcases split n d e with ⟨_, h⟩ | ⟨rfl, rfl⟩
    · exact hr.wf n d h
    · exact hb
  · rcases split n d e with ⟨hn, h⟩ | ⟨rfl, rfl⟩
    · have f' : w.ρ[n]? = some a := by
        have : (w.ρ ++ [p])[n]? = some a := f
        rw [List.getElem?_append_left (by rw [hr.len]; exact hn)] at this
        exact this
      obtain ⟨o', ho⟩ := hr.trk n a f'
      have ne : a ≠ p := ne_of_none ho hp
      rcases hr.cell n d a h f' with h' | ⟨h1, h2⟩
      · exact .inl h'
      · exact .inr ⟨h1, h2.keep lw (upd_ne ne)⟩
    · have f' : (w.ρ ++ [p])[S.length]? = some a := f
      rw [← hr.len] at f'
      simp at f'
      subst f'
      exact .inr ⟨hF, hc⟩
  · have e' : (w.ρ ++ [p])[n]? = some a := e
    by_cases h : a = p
    · subst h
      exact ⟨o, upd_same⟩
    · have hn : n < w.ρ.length := by
        apply Classical.byContradiction
        intro hn
        rw [List.getElem?_append_right (by omega)] at e'
        have hm := List.mem_of_getElem? e'
        simp at hm
        exact h hm
      rw [List.getElem?_append_left hn] at e'
      obtain ⟨o', ho⟩ := hr.trk n a e'
      exact ⟨o', by rw [upd_ne h]; exact ho⟩
/-- a cell written -/
theorem HRel.write (hr : HRel K S w H) {n : Nat} {a : Addr} {o : HO} {c : Cell} (ha : w.ρ[n]? = some a) (hF : w.F a = none) (hb : c.lows n = true) (hc : CellAt K w (upd H a o) a c) : HRel K (S.set n c) w (upd H a o) := by
  refine ⟨hr.le.right hF, by simp [hr.len], hr.inj, fun m d e => ?_, fun m d b e f => ?_, fun m b e => ?_⟩
  · by_cases h : m = n
    · subst h
      have hl : m < S.length := by
        have := (List.getElem?_eq_some_iff.mp e).1
        simpa using this
      rw [List.getElem?_set_self hl] at e
      cases e
      exact hb
    · rw [List.getElem?_set_ne (Ne.symm h)] at e
      exact hr.wf m d e
  · by_cases h : m = n
    · subst h
      have hl : m < S.length := by
        have := (List.getElem?_eq_some_iff.mp e).1
        simpa using this
      rw [List.getElem?_set_self hl] at e
      cases e
      rw [ha] at f
      cases f
      exact .inr ⟨hF, hc⟩
    · rw [List.getElem?_set_ne (Ne.symm h)] at e
      have ne : b ≠ a := fun z => by
        subst z
        exact h (nodup_at hr.inj f ha)
      rcases hr.cell m d b e f with h' | ⟨h1, h2⟩
      · exact .inl h'
      · exact .inr ⟨h1, h2.keep (LeW.refl _) (upd_ne ne)⟩
  · by_cases h : b = a
    · subst h
      exact ⟨o, upd_same⟩
    · rw [upd_ne h]
      exact hr.trk m b e
/-- a cell frozen -/
theorem HRel.frozen (hr : HRel K S w H) {n : Nat} {a : Addr} {c : Cell} {p : P} (hc : S[n]? = some c) (hp : c.view = some p) (ha : w.ρ[n]? = some a) :
    ∃ w', HRel K (S.set n .dead) w' H ∧ LeW w w' ∧ w'.ρ = w.ρ ∧ RepP K w'.F p (.ref a) := by
  rcases hr.cell n c a hc ha with rfl | ⟨hF, q⟩
  · simp [Cell.view] at hp
  · obtain ⟨o, ho⟩ := hr.trk n a ha
    have lw : LeW w ⟨w.ρ, upd w.F a o⟩ := ⟨List.prefix_refl _, (LeF.upd hF).l⟩
    have rep : RepP K (upd w.F a o) p (.ref a) := by
      cases c with
      | dead => simp [Cell.view] at hp
      | lst ws =>
        cases z : allP ws with
        | none => simp [Cell.view, z] at hp
        | some ps =>
          simp [Cell.view, z] at hp
          subst hp
          obtain ⟨vs, h', r, l⟩ := q
          rw [h'] at ho
          cases ho
          unfold RepP
          exact ⟨a, vs, rfl, upd_same, RepPs.mono (LeF.upd hF).l _ (RepWs.plain r z), l⟩
      | dct ws =>
        cases z : allKP ws with
        | none => simp [Cell.view, z] at hp
        | some ps =>
          simp [Cell.view, z] at hp
          subst hp
          obtain ⟨vs, h', r, l⟩ := q
          rw [h'] at ho
          cases ho
          unfold RepP
          exact ⟨a, vs, _, rfl, upd_same, rfl, RepPk.mono (LeF.upd hF).l _ (RepWk.plainK r z), l⟩
      | ins cc ws =>
        cases z : allFP ws with
        | none => simp [Cell.view, z] at hp
        | some ps =>
          simp [Cell.view, z] at hp
          subst hp
          obtain ⟨dx, vs, h', r⟩ := q
          rw [h'] at ho
          cases ho
          unfold RepP
          exact ⟨a, dx, vs, rfl, upd_same, RepPf.mono (LeF.upd hF).l _ (RepWk.plainF r z)⟩
    refine ⟨⟨w.ρ, upd w.F a o⟩, ⟨?_, by simpa using hr.len, hr.inj, fun m d e => ?_, fun m d b e f => ?_, hr.trk⟩, lw, rfl, rep⟩
    · intro x u e
      by_cases h : x = a
      · subst h
        have e' : upd w.F x o x = some u := e
        rw [upd_same] at e'
        cases e'
        exact ho
      · have e' : upd w.F a o x = some u := e
        rw [upd_ne h] at e'
        exact hr.le x u e'
    · by_cases h : m = n
      · subst h
        have hl : m < S.length := by
          have := (List.getElem?_eq_some_iff.mp e).1
          simpa using this
        rw [List.getElem?_set_self hl] at e
        cases e
        rfl
      · rw [List.getElem?_set_ne (Ne.symm h)] at e
        exact hr.wf m d e
    · by_cases h : m = n
      · subst h
        have hl : m < S.length := by
          have := (List.getElem?_eq_some_iff.mp e).1
          simpa using this
        rw [List.getElem?_set_self hl] at e
        cases e
        exact .inl rfl
      · rw [List.getElem?_set_ne (Ne.symm h)] at e
        have ne : b ≠ a := fun z => by
          subst z
          exact h (nodup_at hr.inj f ha)
        rcases hr.cell m d b e f with h' | ⟨h1, h2⟩
        · exact .inl h'
        · exact .inr ⟨by show upd w.F a o b = none; rw [upd_ne ne]; exact h1, h2.keep lw rfl⟩
/-- the last cells dropped -/
theorem RepW.cut {k : Nat} : ∀ {x : W} {v : V}, RepW K w x v → refBelow k x = true → RepW K ⟨w.ρ.take k, w.F⟩ x v
  | .v p, v, q, _ => q
  | .c n, v, ⟨a, e, z⟩, h => ⟨a, by
      have h' : n < k := of_decide_eq_true h
      show (w.ρ.take k)[n]? = some a
      rw [List.getElem?_take_of_lt h']
      exact e, z⟩
theorem RepWs.cut {k : Nat} : ∀ {xs : List W} {vs : List V}, RepWs K w xs vs → xs.all (refBelow k) = true → RepWs K ⟨w.ρ.take k, w.F⟩ xs vs
  | [], _, .nil, _ => .nil
  | x :: xs, _, .cons r t, h => by
    simp at h
    exact .cons (r.cut h.1) (RepWs.cut t (by simpa using h.2))
theorem RepWk.cut {κ : Type} {k : Nat} : ∀ {xs : List (κ × W)} {vs : List (κ × V)}, RepWk K w xs vs → (xs.all fun q => refBelow k q.2) = true → RepWk K ⟨w.ρ.take k, w.F⟩ xs vs
  | [], _, .nil, _ => .nil
  | x :: xs, _, .cons r t, h => by
    simp at h
    refine .cons ⟨r.1, RepW.cut r.2 h.1⟩ (RepWk.cut t ?_)
    simp
    exact h.2
theorem lows_le {n k : Nat} (hnk : n ≤ k) : ∀ {c : Cell}, c.lows n = true → c.lows k = true := by
  have one : ∀ x, refBelow n x = true → refBelow k x = true := fun x => by
    cases x with
    | v _ => exact fun _ => rfl
    | c m =>
      intro h
      have h' : m < n := of_decide_eq_true h
      exact decide_eq_true (by omega)
  intro c h
  cases c with
  | dead => rfl
  | lst ws =>
    have h' : ∀ x ∈ ws, refBelow n x = true := by simpa [Cell.lows] using h
    show ws.all (refBelow k) = true
    rw [List.all_eq_true]
    exact fun x hx => one x (h' x hx)
  | dct ws =>
    have h' := List.all_eq_true.mp (show (ws.all fun q => refBelow n q.2) = true from h)
    show (ws.all fun q => refBelow k q.2) = true
    rw [List.all_eq_true]
    exact fun x hx => one x.2 (h' x hx)
  | ins cc ws =>
    have h' := List.all_eq_true.mp (show (ws.all fun q => refBelow n q.2) = true from h)
    show (ws.all fun q => refBelow k q.2) = true
    rw [List.all_eq_true]
    exact fun x hx => one x.2 (h' x hx)
theorem CellAt.cut {a : Addr} {k : Nat} : ∀ {c : Cell}, CellAt K w H a c → c.lows k = true → CellAt K ⟨w.ρ.take k, w.F⟩ H a c
  | .lst ws, ⟨vs, h, r, z⟩, b => ⟨vs, h, r.cut b, z⟩
  | .dct ws, ⟨vs, h, r, z⟩, b => ⟨vs, h, r.cut b, z⟩
  | .ins c ws, ⟨dx, vs, h, r⟩, b => ⟨dx, vs, h, r.cut b⟩
  | .dead, _, _ => trivial
theorem HRel.take (hr : HRel K S w H) (k : Nat) : HRel K (S.take k) ⟨w.ρ.take k, w.F⟩ H := by
  have old : ∀ {α : Type} {l : List α} {n : Nat} {x : α}, (l.take k)[n]? = some x → n < k ∧ l[n]? = some x := fun {α l n x} e => by
    have h1 := (List.getElem?_eq_some_iff.mp e).1
    have h2 : n < k := by
      rw [List.length_take] at h1
      omega
    rw [List.getElem?_take_of_lt h2] at e
    exact ⟨h2, e⟩
  refine ⟨hr.le, by simp [hr.len], hr.inj.sublist (List.take_sublist _ _), fun n c e => hr.wf n c (old e).2, fun n c a e f => ?_, fun n a e => hr.trk n a (old e).2⟩
  rcases hr.cell n c a (old e).2 (old f).2 with h | ⟨h1, h2⟩
  · exact .inl h
  · exact .inr ⟨h1, h2.cut (lows_le (Nat.le_of_lt (old e).1) (hr.wf n c (old e).2))⟩
/-- a dict locked -/
theorem HRel.lock (hr : HRel K S w H) {d : Addr} {kv : List (Key × V)} {ob : Obj} (hd : w.F d = some (.dK kv)) :
    HRel K S ⟨w.ρ, upd w.F d (.frz ob (.dK kv))⟩ (upd H d (.frz ob (.dK kv))) ∧ LeW w ⟨w.ρ, upd w.F d (.frz ob (.dK kv))⟩ := by
  have lw : LeW w ⟨w.ρ, upd w.F d (.frz ob (.dK kv))⟩ := ⟨List.prefix_refl _, fun a o e => by
    by_cases h : a = d
    · subst h
      rw [hd] at e
      cases e
      exact .inr ⟨kv, ob, rfl, upd_same⟩
    · left
      show upd w.F d _ a = _
      rw [upd_ne h]
      exact e⟩
  refine ⟨⟨hr.le.upd2, hr.len, hr.inj, hr.wf, fun n c a e f => ?_, fun n a e => ?_⟩, lw⟩
  · rcases hr.cell n c a e f with h | ⟨h1, h2⟩
    · exact .inl h
    · have ne : a ≠ d := fun z => by
        rw [z, hd] at h1
        cases h1
      exact .inr ⟨by show upd w.F d _ a = none; rw [upd_ne ne]; exact h1, h2.keep lw (upd_ne ne)⟩
  · obtain ⟨o', ho⟩ := hr.trk n a e
    by_cases h : a = d
    · subst h
      exact ⟨_, upd_same⟩
    · exact ⟨o', by rw [upd_ne h]; exact ho⟩
theorem LeW.take {w0 : Wd} {k : Nat} (h : LeW w0 w) (hk : w0.ρ.length ≤ k) : LeW w0 ⟨w.ρ.take k, w.F⟩ := by
  refine ⟨?_, h.2⟩
  show w0.ρ <+: w.ρ.take k
  rw [List.prefix_take_iff]
  exact ⟨h.1, hk⟩
end
end LS

set_option Elab.async false
set_option linter.all false
set_option maxRecDepth 100000
/-! LS3: readings of the small syntax, and what the text asks beside. -/
namespace LS
open PySem PySem.Spec PyProof.Rows L2

/-- what is wanted behind a computation, from a world on -/
def RdG (K : PySem.W.Frag) {α β : Type} (rel : Wd → α → β → Prop) (w : Wd) (m : R (α × Cells)) (Q : β → Hp → Prop) : Prop := match m with
  | .ok q => ∀ w' v H', LeW w w' → HRel K q.2 w' H' → rel w' q.1 v → Q v H'
  | _ => False
section
variable {K : PySem.W.Frag} {α β γ δ : Type} {rel : Wd → α → β → Prop} {rel2 : Wd → γ → δ → Prop} {w : Wd} {Q : β → Hp → Prop}
theorem RdG.ok {x : α} {S : Cells} : RdG K rel w (.ok (x, S)) Q → ∀ {w' v H'}, LeW w w' → HRel K S w' H' → rel w' x v → Q v H' := fun h {w' v H'} a b c => h w' v H' a b c
theorem RdG.up {m : R (α × Cells)} {w1 : Wd} (h : RdG K rel w m Q) (l : LeW w w1) : RdG K rel w1 m Q := by
  cases m with
  | ok q => exact fun w' v H' a b c => h w' v H' (l.trans a) b c
  | ex _ _ _ => exact h
  | no => exact h
theorem RdG.imp {m : R (α × Cells)} {Q' : β → Hp → Prop} (h : RdG K rel w m Q) (k : ∀ v H, Q v H → Q' v H) : RdG K rel w m Q' := by
  cases m with
  | ok q => exact fun w' v H' a b c => k _ _ (h w' v H' a b c)
  | ex _ _ _ => exact h
  | no => exact h
/-- what stands behind the first part -/
def Mid (K : PySem.W.Frag) (rel : Wd → α → β → Prop) (rel2 : Wd → γ → δ → Prop) (w : Wd) (k : α × Cells → R (γ × Cells)) (Q : δ → Hp → Prop) : β → Hp → Prop := fun v H1 =>
  ∃ w1 x S1, LeW w w1 ∧ HRel K S1 w1 H1 ∧ rel w1 x v ∧ RdG K rel2 w1 (k (x, S1)) Q
theorem RdG.step {m : R (α × Cells)} {k : α × Cells → R (γ × Cells)} {Q : δ → Hp → Prop} (h : RdG K rel2 w (m.bind k) Q) : RdG K rel w m (Mid K rel rel2 w k Q) := by
  cases m with
  | ok q => exact fun w' v H' a b c => ⟨w', q.1, q.2, a, b, c, RdG.up (show RdG K rel2 w (k q) Q from h) a⟩
  | ex _ _ _ => exact h
  | no => exact h
end

section
variable {K : PySem.W.Frag} {α β γ δ : Type} {rel : Wd → α → β → Prop} {rel2 : Wd → γ → δ → Prop} {w : Wd} {Q : β → Hp → Prop}
/-- .. wanted from the first world on -/
def Mid0 (K : PySem.W.Frag) (rel : Wd → α → β → Prop) (rel2 : Wd → γ → δ → Prop) (w : Wd) (k : α × Cells → R (γ × Cells)) (Q : δ → Hp → Prop) : β → Hp → Prop := fun v H1 =>
  ∃ w1 x S1, LeW w w1 ∧ HRel K S1 w1 H1 ∧ rel w1 x v ∧ RdG K rel2 w (k (x, S1)) Q
theorem RdG.step0 {m : R (α × Cells)} {k : α × Cells → R (γ × Cells)} {Q : δ → Hp → Prop} (h : RdG K rel2 w (m.bind k) Q) : RdG K rel w m (Mid0 K rel rel2 w k Q) := by
  cases m with
  | ok q => exact fun w' v H' a b c => ⟨w', q.1, q.2, a, b, c, h⟩
  | ex _ _ _ => exact h
  | no => exact h
end

/-! ### readings -/
def relB (_ : Wd) (a b : Bool) : Prop := a = b
def tE (K : PySem.W.Frag) (C : Cn) (e : E) : TE := fun σ H Q => ∃ w env S, HRel K S w H ∧ EnvRel K w env σ ∧ RdG K (RepW K) w (evE C e env S) Q
def tTm (K : PySem.W.Frag) (C : Cn) (e : E) : TT := fun σ H Q => ∃ w env S, HRel K S w H ∧ EnvRel K w env σ ∧ RdG K relB w (testOf (evE C e env S)) Q
def tAm (K : PySem.W.Frag) (C : Cn) (e : E) : TA := fun σ H Q => ∃ w env S, HRel K S w H ∧ EnvRel K w env σ ∧ RdG K (RepWs K) w (evL C e env S) Q

theorem PE.weak {X : Cx} {e : Expr} {t t' : TE} (h : PE X e t) (k : ∀ σ H Q, t' σ H Q → t σ H Q) : PE X e t' := ⟨fun pins s σ H Q I q => h.run pins s σ H Q I (k σ H Q q)⟩
theorem PT.weak {X : Cx} {e : Expr} {t t' : TT} (h : PT X e t) (k : ∀ σ H Q, t' σ H Q → t σ H Q) : PT X e t' := ⟨fun pins s σ H Q I q => h.run pins s σ H Q I (k σ H Q q)⟩
theorem PA.weak {X : Cx} {e : List Expr} {t t' : TA} (h : PA X e t) (k : ∀ σ H Q, t' σ H Q → t σ H Q) : PA X e t' := ⟨fun pos pins s σ H Q I q => h.run pos pins s σ H Q I (k σ H Q q)⟩
theorem PS.weak {X : Cx} {e : Stmt} {t t' : TS} (h : PS X e t) (k : ∀ D σ H, t' D σ H → t D σ H) : PS X e t' := ⟨fun pins s σ H D I q => h.run pins s σ H D I (k D σ H q)⟩
/-- a rule chosen by what is asked -/
theorem PE.pick {X : Cx} {e : Expr} {t : TE} (h : ∀ σ H Q, t σ H Q → ∃ t', PE X e t' ∧ t' σ H Q) : PE X e t := ⟨fun pins s σ H Q I q => by
  obtain ⟨t', p, q'⟩ := h σ H Q q
  exact p.run pins s σ H Q I q'⟩
theorem PA.pick {X : Cx} {e : List Expr} {t : TA} (h : ∀ σ H Q, t σ H Q → ∃ t', PA X e t' ∧ t' σ H Q) : PA X e t := ⟨fun pos pins s σ H Q I q => by
  obtain ⟨t', p, q'⟩ := h σ H Q q
  exact p.run pos pins s σ H Q I q'⟩
theorem PS.pick {X : Cx} {e : Stmt} {t : TS} (h : ∀ D σ H, t D σ H → ∃ t', PS X e t' ∧ t' D σ H) : PS X e t := ⟨fun pins s σ H D I q => by
  obtain ⟨t', p, q'⟩ := h D σ H q
  exact p.run pins s σ H D I q'⟩
/-- an operator by whatever rule serves the values -/
def rAnyOp (X : Cx) (f : Value → Value → Sem Value) : R2 := fun x y H Q => ∃ r, OpR X f r ∧ r x y H Q
theorem op_any {X : Cx} (f : Value → Value → Sem Value) : OpR X f (rAnyOp X f) := fun pins s σ H x y v u Q I rx ry ⟨r, o, q⟩ => o pins s σ H x y v u Q I rx ry q
def rAnyCall (X : Cx) (f : Value) : List V → Hp → VK → Prop := fun xs H Q => ∃ r, CallR X f r ∧ r xs H Q
theorem call_any {X : Cx} (f : Value) : CallR X f (rAnyCall X f) := fun pins s σ H vs us Q I r ⟨q, c, h⟩ => c pins s σ H vs us Q I r h

/-! ### what the text's forms ask beside: no star, no super(), no comprehension .. -/
def notStar : Expr → Bool
  | .Starred _ _ => false
  | _ => true
theorem starEach_ns {e : Expr} {es : List Expr} {env : PySem.Env} (h : notStar e = true) : starEach (e :: es) env = (false, eval e env) :: starEach es env := by
  cases e <;> first
    | rfl
    | cases h
theorem backTo_ns {pos : Pos} {env : PySem.Env} : ∀ {es : List Expr}, es.all notStar = true → (backTo pos (starEach es env)).any (·.1) = false
  | [], _ => rfl
  | e :: es, h => by
    simp only [List.all_cons, Bool.and_eq_true] at h
    rw [starEach_ns h.1]
    show (false || (backTo pos (starEach es env)).any (·.1)) = false
    rw [backTo_ns h.2]
    rfl
def notSuper : Expr → Bool
  | .Call (.Name _ _) [] [] _ => false
  | _ => true
theorem attrBase_ns {e : Expr} {f : Str} {env : PySem.Env} {m : Sem Value} (h : notSuper e = true) : attributeBase e f env m = m := by
  unfold attributeBase
  split
  · cases h
  · rfl
def notComp : Expr → Bool
  | .ListComp _ _ _ _ => false
  | .SetComp _ _ _ _ => false
  | .DictComp _ _ _ _ _ => false
  | _ => true
theorem swaps_nc {e : Expr} {t : Option Expr} {l : Nat} {env : PySem.Env} (h : notComp e = true) : swapsWith e t l env = pure false := by
  cases e <;> first
    | rfl
    | cases h
def plainTest : Expr → Bool
  | .BoolOp _ _ _ => false
  | .UnaryOp _ _ _ => false
  | .Compare _ _ _ _ => false
  | .IfExp _ _ _ _ => false
  | .NamedExpr _ _ _ => false
  | _ => true
theorem isTrue_pl {e : Expr} {env : PySem.Env} (h : plainTest e = true) : ∀ whole, isTrue e env whole = (do let v ← whole; standAt e.pos; holding [v] (truthy v)) := by
  intro whole
  cases e <;> first
    | rfl
    | cases h
def notSetE : Expr → Bool
  | .Set _ _ _ => false
  | _ => true
theorem folded_ns {e : Expr} {env : PySem.Env} (h : notSetE e = true) : ∀ x, foldedSetIterable e env x = pure x := by
  intro x
  cases e <;> first
    | rfl
    | cases h
def notSlice : Expr → Bool
  | .Slice _ _ _ _ => false
  | _ => true
end LS

set_option Elab.async false
set_option linter.all false
set_option maxRecDepth 100000
/-! LS4: operators by values. -/
namespace LS
open PySem PySem.Spec PyProof.Rows L2

def boOp : BO → Operator
  | .add => .Add | .sub => .Sub | .mul => .Mult | .fdiv => .FloorDiv | .mod => .Mod | .pow => .Pow
def coOp : CO → CmpOp
  | .eq => .Eq | .ne => .NotEq | .lt => .Lt | .le => .LtE | .gt => .Gt | .ge => .GtE | .isN => .Is | .notN => .IsNot | .in_ => .In | .nin => .NotIn
theorem lim_le : lim ≤ sizeLine := by rw [sizeLine_eq]; decide
section
variable {X : Cx} {w : Wd} {H : Hp} {S : Cells} {x y : W} {v u : V} {Q : VK}
/-- a flat value is what it is -/
theorem RdG.val {K : PySem.W.Frag} (h : RdG K (RepW K) w (ok1 S p) Q) (hr : HRel K S w H) (r : RepP K w.F p v) : Q v H := h w v H (LeW.refl _) hr r
theorem T_int {K : PySem.W.Frag} {F : Hp} {i : Int} (h : RepT K F H (.int i) v) : v = .int i := by
  have h' : RepP K F (.int i) v := h
  unfold RepP at h'
  exact h'
theorem T_str {K : PySem.W.Frag} {F : Hp} {i : Str} (h : RepT K F H (.str i) v) : v = .str i := by
  have h' : RepP K F (.str i) v := h
  unfold RepP at h'
  exact h'
theorem T_bl {K : PySem.W.Frag} {F : Hp} {i : Bool} (h : RepT K F H (.bl i) v) : v = .bl i := by
  have h' : RepP K F (.bl i) v := h
  unfold RepP at h'
  exact h'
theorem T_non {K : PySem.W.Frag} {F : Hp} (h : RepT K F H .non v) : v = .non := by
  have h' : RepP K F .non v := h
  unfold RepP at h'
  exact h'
theorem P_int {K : PySem.W.Frag} {F : Hp} {i : Int} : RepP K F (.int i) (.int i) := by unfold RepP; rfl
theorem P_str {K : PySem.W.Frag} {F : Hp} {i : Str} : RepP K F (.str i) (.str i) := by unfold RepP; rfl
theorem P_bl {K : PySem.W.Frag} {F : Hp} {i : Bool} : RepP K F (.bl i) (.bl i) := by unfold RepP; rfl
theorem P_non {K : PySem.W.Frag} {F : Hp} : RepP K F .non .non := by unfold RepP; rfl
/-- a new frozen list of known parts -/
theorem new_lst {K : PySem.W.Frag} (hr : HRel K S w H) {xs : List P} {vs : List V} {p : Addr} (hp : H p = none) (r : RepPs K w.F xs vs) (hz : vs.length ≤ sizeLine) :
    ∃ w', LeW w w' ∧ HRel K S w' (upd H p (.lst vs)) ∧ RepP K w'.F (.lst xs) (.ref p) := by
  obtain ⟨h1, h2⟩ := hr.newF (o := .lst vs) hp
  refine ⟨_, h2, h1, ?_⟩
  unfold RepP
  exact ⟨p, vs, rfl, upd_same, RepPs.mono h2.2 _ r, hz⟩
theorem new_tup {K : PySem.W.Frag} (hr : HRel K S w H) {xs : List P} {vs : List V} {p : Addr} (hp : H p = none) (r : RepPs K w.F xs vs) (hz : vs.length ≤ sizeLine) :
    ∃ w', LeW w w' ∧ HRel K S w' (upd H p (.tup vs)) ∧ RepP K w'.F (.tup xs) (.ref p) := by
  obtain ⟨h1, h2⟩ := hr.newF (o := .tup vs) hp
  refine ⟨_, h2, h1, ?_⟩
  unfold RepP
  exact ⟨p, vs, rfl, SqT.of upd_same, RepPs.mono h2.2 _ r, hz⟩
theorem new_dct {K : PySem.W.Frag} (hr : HRel K S w H) {xs : List (Key × P)} {vs : List (Key × V)} {p : Addr} (hp : H p = none) (r : RepPk K w.F xs vs) (hz : vs.length ≤ sizeLine) :
    ∃ w', LeW w w' ∧ HRel K S w' (upd H p (.dK vs)) ∧ RepP K w'.F (.dct xs) (.ref p) := by
  obtain ⟨h1, h2⟩ := hr.newF (o := .dK vs) hp
  refine ⟨_, h2, h1, ?_⟩
  unfold RepP
  exact ⟨p, vs, _, rfl, upd_same, rfl, RepPk.mono h2.2 _ r, hz⟩

theorem bin_snd (o : BO) (hr : HRel X.K S w H) (rx : RepW X.K w x v) (ry : RepW X.K w y u) (h : RdG X.K (RepW X.K) w (binOp o x y S) Q) : rAnyOp X (binaryOp (boOp o)) v u H Q := by
  unfold binOp at h
  split at h
  case h_1 i j hx hy =>
    cases T_int (hr.view hx rx); cases T_int (hr.view hy ry)
    exact ⟨_, op_add, _, _, rfl, rfl, RdG.val h hr P_int⟩
  case h_2 a b hx hy =>
    cases T_str (hr.view hx rx); cases T_str (hr.view hy ry)
    split at h
    · rename_i hl
      exact ⟨_, op_add_str, _, _, rfl, rfl, Nat.le_trans hl lim_le, RdG.val h hr P_str⟩
    · exact h.elim
  case h_3 a b hx hy =>
    obtain ⟨p1, vs, rfl, s1, r1, z1⟩ := hr.view hx rx
    obtain ⟨p2, us, rfl, s2, r2, z2⟩ := hr.view hy ry
    split at h
    · rename_i hl
      have l1 := r1.len
      have l2 := r2.len
      have hz : (vs ++ us).length ≤ sizeLine := by
        rw [List.length_append]
        have := lim_le
        omega
      refine ⟨_, op_cat, p1, p2, vs, us, rfl, rfl, s1, s2, by rw [← List.length_append]; exact hz, fun p hp => ?_⟩
      obtain ⟨w', lw, hr', rp⟩ := new_lst hr hp (RepPs.app r1 r2) hz
      exact h w' _ _ lw hr' rp
    · exact h.elim
  case h_4 i j hx hy =>
    cases T_int (hr.view hx rx); cases T_int (hr.view hy ry)
    exact ⟨_, op_sub, _, _, rfl, rfl, RdG.val h hr P_int⟩
  case h_5 i j hx hy =>
    cases T_int (hr.view hx rx); cases T_int (hr.view hy ry)
    split at h
    · rename_i hl
      refine ⟨_, op_mul, _, _, rfl, rfl, ?_, RdG.val h hr P_int⟩
      unfold CMul
      rcases hl with hl | hl
      · left
        omega
      · right
        omega
    · exact h.elim
  case h_6 i j hx hy =>
    cases T_int (hr.view hx rx); cases T_int (hr.view hy ry)
    split at h
    · rename_i hl
      exact ⟨_, op_fdiv, _, _, rfl, rfl, hl, RdG.val h hr P_int⟩
    · exact h.elim
  case h_7 i j hx hy =>
    cases T_int (hr.view hx rx); cases T_int (hr.view hy ry)
    split at h
    · rename_i hl
      exact ⟨_, op_mod, _, _, rfl, rfl, hl, RdG.val h hr P_int⟩
    · exact h.elim
  case h_8 i j hx hy =>
    cases T_int (hr.view hx rx); cases T_int (hr.view hy ry)
    split at h
    · rename_i hl
      refine ⟨_, op_pow, _, _, rfl, rfl, ⟨hl.1, hl.2.1, ?_⟩, RdG.val h hr P_int⟩
      exact hl.2.2
    · exact h.elim
  case h_9 => exact h.elim

/-! ### comparisons -/
mutual
theorem py_Dp {K : PySem.W.Frag} {H : Hp} : ∀ (p : P) {v : V} {d : PyData}, RepP K H p v → p.py = some d → Dp K H v d
  | .non, v, d, r, e => by
    unfold RepP at r
    unfold P.py at e
    cases e
    subst r
    exact .non
  | .bl b, v, d, r, e => by
    unfold RepP at r
    unfold P.py at e
    cases e
    subst r
    exact .bl b
  | .int b, v, d, r, e => by
    unfold RepP at r
    unfold P.py at e
    cases e
    subst r
    exact .int b
  | .str b, v, d, r, e => by
    unfold RepP at r
    unfold P.py at e
    cases e
    subst r
    exact .str b
  | .lst xs, v, d, r, e => by
    unfold RepP at r
    unfold P.py at e
    obtain ⟨a, vs, rfl, s, rs, z⟩ := r
    cases q : pyAll xs with
    | none => rw [q] at e; cases e
    | some ds =>
      rw [q] at e
      cases e
      exact .lst (SqL.of s) (py_DpAll xs rs q)
  | .tup xs, v, d, r, e => by
    unfold RepP at r
    unfold P.py at e
    obtain ⟨a, vs, rfl, s, rs, z⟩ := r
    cases q : pyAll xs with
    | none => rw [q] at e; cases e
    | some ds =>
      rw [q] at e
      cases e
      exact .tup s (py_DpAll xs rs q)
  | .dct _, v, d, r, e => by unfold P.py at e; cases e
  | .obj _ _, v, d, r, e => by unfold P.py at e; cases e
  | .scr _, v, d, r, e => by unfold P.py at e; cases e
theorem py_DpAll {K : PySem.W.Frag} {H : Hp} : ∀ (ps : List P) {vs : List V} {ds : List PyData}, RepPs K H ps vs → pyAll ps = some ds → DpAll K H vs ds
  | [], vs, ds, r, e => by
    unfold RepPs at r
    unfold pyAll at e
    cases e
    subst r
    exact .nil
  | p :: ps, vs, ds, r, e => by
    unfold RepPs at r
    unfold pyAll at e
    obtain ⟨v, t, rfl, h1, h2⟩ := r
    cases q1 : p.py with
    | none => rw [q1] at e; cases e
    | some d =>
      cases q2 : pyAll ps with
      | none => rw [q1, q2] at e; cases e
      | some dd =>
        rw [q1, q2] at e
        cases e
        exact .cons (py_Dp p h1 q1) (py_DpAll ps h2 q2)
end
def toV : P → V
  | .bl b => .bl b
  | .int i => .int i
  | .str s => .str s
  | _ => .non
theorem flat_v {K : PySem.W.Frag} {F : Hp} {p : P} (f : flatP p = true) (r : RepP K F p v) : v = toV p := by
  cases p with
  | non => unfold RepP at r; exact r
  | bl b => unfold RepP at r; exact r
  | int b => unfold RepP at r; exact r
  | str b => unfold RepP at r; exact r
  | _ => cases f
theorem flat_t {K : PySem.W.Frag} {F : Hp} {p : P} (f : flatP p = true) (r : RepT K F H p v) : v = toV p := by
  cases p with
  | non => exact T_non r
  | bl b => exact T_bl r
  | int b => exact T_int r
  | str b => exact T_str r
  | _ => cases f
theorem flat_vs {K : PySem.W.Frag} {F : Hp} : ∀ {ps : List P} {vs : List V}, ps.all flatP = true → RepPs K F ps vs → vs = ps.map toV
  | [], vs, _, r => by unfold RepPs at r; exact r
  | p :: ps, vs, f, r => by
    unfold RepPs at r
    obtain ⟨v, t, rfl, h1, h2⟩ := r
    simp only [List.all_cons, Bool.and_eq_true] at f
    rw [flat_v f.1 h1, flat_vs f.2 h2]
    rfl
theorem flat_flatV {p : P} (f : flatP p = true) : flatV (toV p) = true := by
  cases p <;> first
    | rfl
    | cases f
theorem eqV_F {a b : P} (f : flatP a = true) (g : flatP b = true) : eqV (toV a) (toV b) = eqF a b := by
  cases a <;> cases b <;> first
    | rfl
    | (cases f; done)
    | (cases g; done)
theorem inV_F {x : P} (f : flatP x = true) : ∀ {ys : List P}, ys.all flatP = true → inV (toV x) (ys.map toV) = ys.any fun y => eqF y x
  | [], _ => rfl
  | y :: ys, g => by
    simp only [List.all_cons, Bool.and_eq_true] at g
    have ih := inV_F f g.2
    unfold inV at ih ⊢
    rw [List.map_cons, List.any_cons, List.any_cons, eqV_F g.1 f, ih]
theorem all_flatV {ys : List P} (g : ys.all flatP = true) : (ys.map toV).all flatV = true := by
  rw [List.all_map, List.all_eq_true]
  exact fun y hy => flat_flatV (List.all_eq_true.mp g y hy)
theorem key_v {K : PySem.W.Frag} {F : Hp} {p : P} {k : Key} (e : keyOf p = some k) (r : RepP K F p v) : v = kV k := by
  cases p with
  | int i => cases e; unfold RepP at r; exact r
  | str i => cases e; unfold RepP at r; exact r
  | _ => cases e
theorem key_t {K : PySem.W.Frag} {F : Hp} {p : P} {k : Key} (e : keyOf p = some k) (r : RepT K F H p v) : v = kV k := by
  cases p with
  | int i => cases e; exact T_int r
  | str i => cases e; exact T_str r
  | _ => cases e
theorem rd_core {a : Addr} {o : HO} {kvs : List (Key × V)} (h : H a = some o) (c : coreO o = .dK kvs) : Rd H a (.dK kvs) := by
  unfold coreO at c
  split at c
  · cases c
    exact .inr ⟨_, h⟩
  · subst c
    exact .inl h
def rDIn (neg : Bool) : R2 := fun y x H Q => ∃ a ov, x = .ref a ∧ DGet H a y ov ∧ Q (.bl (if neg then !ov.isSome else ov.isSome)) H
theorem op_din (hu : X.A.units + 1 < cLine) : OpR X (compareOp .In) (rDIn false) := by
  intro pins s σ H x y v u Q I rx ry h
  obtain ⟨a, ov, rfl, g, q⟩ := h
  cases ry
  exact d_in hu I g rx fun s3 I3 => ⟨.bl ov.isSome, H, I3, rfl, q⟩
theorem op_dnin (hu : X.A.units + 1 < cLine) : OpR X (compareOp .NotIn) (rDIn true) := by
  intro pins s σ H x y v u Q I rx ry h
  obtain ⟨a, ov, rfl, g, q⟩ := h
  cases ry
  exact d_notIn hu I g rx fun s3 I3 => ⟨.bl (!ov.isSome), H, I3, rfl, q⟩
/-- x in y -/
theorem in_snd (neg : Bool) {a b : P} {k : Bool} (hu : X.A.units + 64 < cLine) (hr : HRel X.K S w H) (rx : RepT X.K w.F H a v) (ry : RepT X.K w.F H b u) (e : inP a b = some k)
    (q : Q (.bl (if neg then !k else k)) H) : rAnyOp X (compareOp (if neg then .NotIn else .In)) v u H Q := by
  unfold inP at e
  cases b with
  | dct kvs =>
    obtain ⟨ad, kvs', o, rfl, ho, c, r, z⟩ := ry
    cases h : keyOf a with
    | none => rw [h] at e; cases e
    | some key =>
      rw [h] at e
      cases e
      cases key_t h rx
      have rd := rd_core ho c
      have g : DGet H ad (kV key) (valV kvs' key) := .inl ⟨kvs', key, rd, rfl, rfl⟩
      have es : (valV kvs' key).isSome = (getK kvs key).isSome := by
        obtain ⟨g1, g2⟩ := RepPk.get (k := key) r
        cases h2 : getK kvs key with
        | none => rw [g2 h2]; rfl
        | some p =>
          obtain ⟨v', e', _⟩ := g1 p h2
          rw [e']
          rfl
      cases neg with
      | false => exact ⟨_, op_din (by omega), ad, _, rfl, g, by rw [es]; exact q⟩
      | true => exact ⟨_, op_dnin (by omega), ad, _, rfl, g, by rw [es]; exact q⟩
  | str s =>
    cases T_str ry
    cases a with
    | str c =>
      cases T_str rx
      simp only at e
      split at e
      · rename_i hl
        cases e
        obtain ⟨⟨arr⟩⟩ := c
        match arr, hl with
        | [c0], _ =>
          cases neg with
          | false => exact ⟨_, op_in_sign, c0, s, rfl, rfl, q⟩
          | true => exact ⟨_, op_notIn_sign, c0, s, rfl, rfl, q⟩
      · cases e
    | _ => cases e
  | lst ys =>
    obtain ⟨ad, vs, rfl, ho, r, z⟩ := ry
    simp only at e
    split at e
    · rename_i hf
      simp only [Bool.and_eq_true] at hf
      cases e
      cases flat_t hf.1 rx
      cases flat_vs hf.2 r
      have q' : Q (.bl (if neg then !inV (toV a) (ys.map toV) else inV (toV a) (ys.map toV))) H := by
        rw [inV_F hf.1 hf.2]
        exact q
      cases neg with
      | false => exact ⟨_, op_in_seq, ad, _, rfl, .inl (SqL.of ho), flat_flatV hf.1, all_flatV hf.2, q'⟩
      | true => exact ⟨_, op_notIn_seq, ad, _, rfl, .inl (SqL.of ho), flat_flatV hf.1, all_flatV hf.2, q'⟩
    · cases e
  | tup ys =>
    obtain ⟨ad, vs, rfl, ho, r, z⟩ := ry
    simp only at e
    split at e
    · rename_i hf
      simp only [Bool.and_eq_true] at hf
      cases e
      cases flat_t hf.1 rx
      cases flat_vs hf.2 r
      have q' : Q (.bl (if neg then !inV (toV a) (ys.map toV) else inV (toV a) (ys.map toV))) H := by
        rw [inV_F hf.1 hf.2]
        exact q
      cases neg with
      | false => exact ⟨_, op_in_seq, ad, _, rfl, .inr ho, flat_flatV hf.1, all_flatV hf.2, q'⟩
      | true => exact ⟨_, op_notIn_seq, ad, _, rfl, .inr ho, flat_flatV hf.1, all_flatV hf.2, q'⟩
    · cases e
  | _ => cases e
/-! == of dicts of flat things -/
def allHit (ls ks : List (Key × V)) : Bool := ks.all fun p => match valV ls p.1 with
  | some u => eqV p.2 u
  | none => false
theorem valV_mem {k : Key} {u : V} : ∀ {ls : List (Key × V)}, valV ls k = some u → (k, u) ∈ ls
  | [], h => by cases h
  | q :: r, h => by
    by_cases e : q.1 = k
    · rw [valV_pos e] at h
      cases h
      subst e
      exact List.mem_cons_self
    · rw [valV_neg e] at h
      exact List.mem_cons_of_mem _ (valV_mem h)
theorem hits_flat {A : Around} {s : Shared} {ls : List (Key × V)} {vb : List (Key × Value)} (rb : KV ls vb) (fl : ∀ p ∈ ls, flatV p.2 = true) {ks : List (Key × V)} {va : List (Key × Value)} (ra : KV ks va) : (∀ p ∈ ks, flatV p.2 = true) → PySem.W.KeqHits A s vb va (allHit ls ks) := by
  unfold KV at ra
  induction ra with
  | nil => exact fun _ => .nil
  | @cons p q ps qs h t ih =>
    intro fp
    have ih := ih fun z hz => fp z (List.mem_cons_of_mem _ hz)
    obtain ⟨k, v⟩ := q
    obtain ⟨h1, h2⟩ := h
    have h1 : p.1 = k := h1
    have rv := rb.val p.1
    cases hv : valV ls p.1 with
    | none =>
      rw [hv] at rv
      have hn : valueAt vb k = none := by
        rw [← h1]
        cases hx : valueAt vb p.1 with
        | none => rfl
        | some z => rw [hx] at rv; exact rv.elim
      have e : allHit ls (p :: ps) = false := by simp [allHit, hv]
      rw [e]
      exact .miss hn
    | some u =>
      rw [hv] at rv
      obtain ⟨y, hy, ry⟩ := rv.some_of
      rw [h1] at hy
      have e : allHit ls (p :: ps) = (eqV p.2 u && allHit ls ps) := by simp [allHit, hv]
      rw [e]
      exact .hit hy (eqAt_V h2 ry (fp p List.mem_cons_self) (fl _ (valV_mem hv))) ih
def rEqDK (neg : Bool) : R2 := fun x y H Q => ∃ a b ks ls, x = .ref a ∧ y = .ref b ∧ Rd H a (.dK ks) ∧ Rd H b (.dK ls) ∧ (∀ p ∈ ks, flatV p.2 = true) ∧ (∀ p ∈ ls, flatV p.2 = true) ∧ Q (.bl (if neg = true then !(ks.length == ls.length && allHit ls ks) else (ks.length == ls.length && allHit ls ks))) H
theorem op_eqDK (hu : X.A.units < cLine) : OpR X (compareOp .Eq) (rEqDK false) := by
  intro pins s σ H x y v u Q I rx ry ⟨a, b, ks, ls, e1, e2, ha, hb, fa, fb, q⟩
  subst e1 e2
  cases rx
  cases ry
  obtain ⟨_, ya, va, ra, da⟩ := dk_rd I.hok ha
  obtain ⟨_, yb, vb, rb, db⟩ := dk_rd I.hok hb
  exact PySem.W.keq_eq (knd := mixKind X.prog X.w) ya yb da db hu (fun _ => hits_flat rb fb ra fa) (fin_bl I q (by rw [← ra.length, ← rb.length]; rfl))
theorem op_neDK (hu : X.A.units < cLine) : OpR X (compareOp .NotEq) (rEqDK true) := by
  intro pins s σ H x y v u Q I rx ry ⟨a, b, ks, ls, e1, e2, ha, hb, fa, fb, q⟩
  subst e1 e2
  cases rx
  cases ry
  obtain ⟨_, ya, va, ra, da⟩ := dk_rd I.hok ha
  obtain ⟨_, yb, vb, rb, db⟩ := dk_rd I.hok hb
  exact PySem.W.keq_ne (knd := mixKind X.prog X.w) ya yb da db hu (fun _ => hits_flat rb fb ra fa) (fin_bl I q (by rw [← ra.length, ← rb.length]; rfl))
theorem flat_pk {K : PySem.W.Frag} {F : Hp} : ∀ {xs : List (Key × P)} {vs : List (Key × V)}, RepPk K F xs vs → (xs.all fun q => flatP q.2) = true → vs = xs.map fun q => (q.1, toV q.2)
  | [], vs, q, _ => by unfold RepPk at q; exact q
  | (k, x) :: xs, vs, q, h => by
    unfold RepPk at q
    obtain ⟨v, t, rfl, h1, h2⟩ := q
    simp only [List.all_cons, Bool.and_eq_true] at h
    rw [flat_v h.1 h1, flat_pk h2 h.2]
    rfl
theorem val_toV {k : Key} : ∀ {xs : List (Key × P)}, valV (xs.map fun q => (q.1, toV q.2)) k = (getK xs k).map toV
  | [] => rfl
  | (k0, x) :: xs => by
    by_cases h : k0 = k
    · have e1 : getK ((k0, x) :: xs) k = some x := by simp [getK, List.find?_cons, h]
      rw [e1, List.map_cons, valV_pos h]
      rfl
    · have e1 : getK ((k0, x) :: xs) k = getK xs k := by simp [getK, List.find?_cons, h]
      rw [e1, List.map_cons, valV_neg h]
      exact val_toV
theorem getK_mem {k : Key} {p : P} {xs : List (Key × P)} (h : getK xs k = some p) : ∃ q ∈ xs, q.2 = p := by
  unfold getK at h
  cases hf : xs.find? fun q => decide (q.1 = k) with
  | none => rw [hf] at h; cases h
  | some q =>
    rw [hf] at h
    cases h
    exact ⟨q, List.mem_of_find?_eq_some hf, rfl⟩
theorem eqD_rep {K : PySem.W.Frag} {F : Hp} {x y : List (Key × P)} {ks ls : List (Key × V)} {d : Bool} (r1 : RepPk K F x ks) (r2 : RepPk K F y ls) (e : eqD x y = some d) :
    (∀ p ∈ ks, flatV p.2 = true) ∧ (∀ p ∈ ls, flatV p.2 = true) ∧ (ks.length == ls.length && allHit ls ks) = d := by
  unfold eqD at e
  split at e
  · rename_i hf
    simp only [Bool.and_eq_true] at hf
    have e1 := flat_pk r1 hf.1
    have e2 := flat_pk r2 hf.2
    subst e1 e2
    refine ⟨fun p hp => ?_, fun p hp => ?_, ?_⟩
    · obtain ⟨q, hq, rfl⟩ := List.mem_map.mp hp
      exact flat_flatV (List.all_eq_true.mp hf.1 q hq)
    · obtain ⟨q, hq, rfl⟩ := List.mem_map.mp hp
      exact flat_flatV (List.all_eq_true.mp hf.2 q hq)
    · rw [← Option.some.inj e]
      rw [List.length_map, List.length_map]
      congr 1
      unfold allHit
      rw [List.all_map]
      rw [Bool.eq_iff_iff, List.all_eq_true, List.all_eq_true]
      refine forall_congr' fun q => forall_congr' fun hq => ?_
      simp only [Function.comp]
      rw [val_toV]
      cases hg : getK y q.1 with
      | none => simp
      | some u =>
        obtain ⟨z, hz, rfl⟩ := getK_mem hg
        simp only [Option.map_some]
        rw [eqV_F (List.all_eq_true.mp hf.1 q hq) (List.all_eq_true.mp hf.2 z hz)]
  · cases e
theorem cmp_snd (o : CO) (hu : X.A.units + 64 < cLine) (hr : HRel X.K S w H) (rx : RepW X.K w x v) (ry : RepW X.K w y u) (h : RdG X.K (RepW X.K) w (cmpOp o x y S) Q) : rAnyOp X (compareOp (coOp o)) v u H Q := by
  unfold cmpOp at h
  split at h
  case h_2 => exact h.elim
  case h_1 a b hx hy =>
    have tx := hr.view hx rx
    have ty := hr.view hy ry
    split at h
    case h_2 => exact h.elim
    case h_1 k hk =>
      have q : Q (.bl k) H := RdG.val h hr P_bl
      have deq : ∀ {d}, eqP a b = some d → ∃ da db, Dp X.K H v da ∧ Dp X.K H u db ∧ SeqAt.shaped da = true ∧ SeqAt.shaped db = true ∧ PyData.eqv da db = d := fun {d} e => by
        unfold eqP at e
        split at e
        · rename_i da db ha hb
          split at e
          · rename_i hs
            simp only [Bool.and_eq_true] at hs
            cases e
            exact ⟨da, db, py_Dp a (tx.all hr.le) ha, py_Dp b (ty.all hr.le) hb, hs.1, hs.2, rfl⟩
          · cases e
        · cases e
      have sca : ∀ {d}, eqS a b = some d → (∀ Q' : VK, Q' (.bl d) H → rAnyOp X (compareOp .Eq) v u H Q') ∧ (∀ Q' : VK, Q' (.bl (!d)) H → rAnyOp X (compareOp .NotEq) v u H Q') := fun {d} e => by
        have scl : scal v u = true ∧ decide (v = u) = d → (∀ Q' : VK, Q' (.bl d) H → rAnyOp X (compareOp .Eq) v u H Q') ∧ (∀ Q' : VK, Q' (.bl (!d)) H → rAnyOp X (compareOp .NotEq) v u H Q') := fun ⟨s1, s2⟩ =>
          ⟨fun Q' q => ⟨_, op_eq, s1, by rw [s2]; exact q⟩, fun Q' q => ⟨_, op_ne, s1, by rw [s2]; exact q⟩⟩
        unfold eqS at e
        split at e
        case h_16 =>
          obtain ⟨da, db, h1, h2, h3, h4, h5⟩ := deq e
          exact ⟨fun Q' q => ⟨_, op_eqD hu, da, db, h1, h2, h3, h4, by rw [h5]; exact q⟩, fun Q' q => ⟨_, op_neD hu, da, db, h1, h2, h3, h4, by rw [h5]; exact q⟩⟩
        case h_15 x y =>
          obtain ⟨a1, k1, o1, rfl, f1, c1, r1, _⟩ := tx
          obtain ⟨a2, k2, o2, rfl, f2, c2, r2, _⟩ := ty
          have rq := eqD_rep r1 r2 e
          exact ⟨fun Q' q => ⟨_, op_eqDK (by omega), a1, a2, k1, k2, rfl, rfl, rd_core f1 c1, rd_core f2 c2, rq.1, rq.2.1, by rw [rq.2.2]; exact q⟩, fun Q' q => ⟨_, op_neDK (by omega), a1, a2, k1, k2, rfl, rfl, rd_core f1 c1, rd_core f2 c2, rq.1, rq.2.1, by rw [rq.2.2]; exact q⟩⟩
        all_goals
          apply scl
          first
            | (cases T_str tx; cases T_str ty; cases e; refine ⟨rfl, ?_⟩; simp)
            | (cases T_int tx; cases T_int ty; cases e; refine ⟨rfl, ?_⟩; simp)
            | (cases T_bl tx; cases T_bl ty; cases e; refine ⟨rfl, ?_⟩; simp)
            | (cases T_non tx; cases T_non ty; cases e; refine ⟨rfl, ?_⟩; simp)
            | (cases T_str tx; cases T_non ty; cases e; refine ⟨rfl, ?_⟩; simp)
            | (cases T_non tx; cases T_str ty; cases e; refine ⟨rfl, ?_⟩; simp)
            | (cases T_int tx; cases T_non ty; cases e; refine ⟨rfl, ?_⟩; simp)
            | (cases T_non tx; cases T_int ty; cases e; refine ⟨rfl, ?_⟩; simp)
            | (cases T_bl tx; cases T_non ty; cases e; refine ⟨rfl, ?_⟩; simp)
            | (cases T_non tx; cases T_bl ty; cases e; refine ⟨rfl, ?_⟩; simp)
            | (cases T_str tx; cases T_int ty; cases e; refine ⟨rfl, ?_⟩; simp)
            | (cases T_int tx; cases T_str ty; cases e; refine ⟨rfl, ?_⟩; simp)
            | (cases T_str tx; cases T_bl ty; cases e; refine ⟨rfl, ?_⟩; simp)
            | (cases T_bl tx; cases T_str ty; cases e; refine ⟨rfl, ?_⟩; simp)
      cases o with
      | eq => exact (sca hk).1 Q q
      | ne =>
        cases e : eqS a b with
        | none => simp [cmpP, e] at hk
        | some d =>
          simp [cmpP, e] at hk
          exact (sca e).2 Q (by rw [show (!d) = k by rw [hk, Bool.not_not]]; exact q)
      | lt =>
        simp only [cmpP] at hk
        split at hk
        · cases T_int tx; cases T_int ty; cases hk
          exact ⟨_, op_lt, _, _, rfl, rfl, q⟩
        · cases hk
      | le =>
        simp only [cmpP] at hk
        split at hk
        · cases T_int tx; cases T_int ty; cases hk
          exact ⟨_, op_le, _, _, rfl, rfl, q⟩
        · cases hk
      | gt =>
        simp only [cmpP] at hk
        split at hk
        · cases T_int tx; cases T_int ty; cases hk
          exact ⟨_, op_gt, _, _, rfl, rfl, q⟩
        · cases hk
      | ge =>
        simp only [cmpP] at hk
        split at hk
        · cases T_int tx; cases T_int ty; cases hk
          exact ⟨_, op_ge, _, _, rfl, rfl, q⟩
        · cases hk
      | isN =>
        simp only [cmpP] at hk
        split at hk
        · cases T_non ty
          cases hk
          refine ⟨_, op_isN, rfl, ?_⟩
          have e : decide (v = .non) = isNon a := by
            cases a with
            | non => cases T_non tx; rfl
            | bl _ => cases T_bl tx; rfl
            | int _ => cases T_int tx; rfl
            | str _ => cases T_str tx; rfl
            | lst _ => obtain ⟨_, _, rfl, _⟩ := tx; rfl
            | tup _ => obtain ⟨_, _, rfl, _⟩ := tx; rfl
            | dct _ => obtain ⟨_, _, _, rfl, _⟩ := tx; rfl
            | obj _ _ => obtain ⟨_, _, _, rfl, _⟩ := tx; rfl
            | scr _ => obtain ⟨_, rfl, _⟩ := tx; rfl
          rw [e]
          exact q
        · cases hk
      | notN =>
        simp only [cmpP] at hk
        split at hk
        · cases T_non ty
          cases hk
          refine ⟨_, op_notN, rfl, ?_⟩
          have e : (!decide (v = .non)) = !isNon a := by
            cases a with
            | non => cases T_non tx; rfl
            | bl _ => cases T_bl tx; rfl
            | int _ => cases T_int tx; rfl
            | str _ => cases T_str tx; rfl
            | lst _ => obtain ⟨_, _, rfl, _⟩ := tx; rfl
            | tup _ => obtain ⟨_, _, rfl, _⟩ := tx; rfl
            | dct _ => obtain ⟨_, _, _, rfl, _⟩ := tx; rfl
            | obj _ _ => obtain ⟨_, _, _, rfl, _⟩ := tx; rfl
            | scr _ => obtain ⟨_, rfl, _⟩ := tx; rfl
          rw [e]
          exact q
        · cases hk
      | in_ => exact in_snd false hu hr tx ty hk q
      | nin =>
        cases e : inP a b with
        | none => simp [cmpP, e] at hk
        | some d =>
          simp [cmpP, e] at hk
          exact in_snd true hu hr tx ty e (by rw [if_pos rfl, show (!d) = k by rw [hk, Bool.not_not]]; exact q)
end
end LS

set_option Elab.async false
set_option linter.all false
set_option maxRecDepth 100000
/-! LS5: subscripts, built-in functions and methods by values. -/
namespace LS
open PySem PySem.Spec PyProof.Rows L2
section
variable {X : Cx} {w : Wd} {H : Hp} {S : Cells} {x y : W} {v u : V} {Q : VK}
/-! ### subscripts -/
def rIxD : R2 := fun x y H Q => ∃ a v, x = .ref a ∧ DGet H a y (some v) ∧ Q v H
theorem ix_dict (hu : X.A.units + 1 < cLine) : IxR X rIxD := by
  intro value slice pins s σ H x y v u Q I rx ry h hs
  obtain ⟨a, z, rfl, g, q⟩ := h
  cases rx
  have hT := dict_typeIs I g
  have h2 : wpAny (model X.prog X.w) X.A (getItem (.ref a) u) (EP X pins σ Q) X.xe s := d_getItem hu I g ry fun w' s3 I3 rw' => ⟨z, H, I3, rw', q⟩
  unfold subscriptTail
  refine wpAny_bind ?_
  rw [getitemInPython_of_ne hT.not_modules]
  refine wpAny_bind (wpAny_specialOf hT PySem.F.slot_dict_getitem.lookup ?_)
  have fin : wpAny (model X.prog X.w) X.A (subscripted slice false (.ref a) u) (fun r s₃ => wpAny (model X.prog X.w) X.A (letTemporaryGo value (.ref a) r >>= fun _ => pure r) (EP X pins σ Q) X.xe s₃) X.xe s := by
    rw [hs]
    exact wpAny_operating (wpAny_mono h2 (fun r s₃ h₃ => wpAny_bind (wpAny_letTemporaryGo (wpAny_pure h₃))) fun _ _ x => x)
  first
    | exact wpAny_pure (wpAny_bind fin)
    | exact wpAny_bind (wpAny_pure (wpAny_bind fin))
    | exact wpAny_bind fin
def rAnyIx (X : Cx) : R2 := fun x y H Q => ∃ r, IxR X r ∧ r x y H Q
theorem ix_any : IxR X (rAnyIx X) := fun value slice pins s σ H x y v u Q I rx ry ⟨r, o, q⟩ hs => o value slice pins s σ H x y v u Q I rx ry q hs
theorem atI_rep {K : PySem.W.Frag} {F : Hp} {xs : List P} {vs : List V} {i : Int} {p : P} (r : RepPs K F xs vs) (e : atI xs i = some p) : ∃ z, atI vs i = some z ∧ RepP K F p z := by
  unfold atI at e ⊢
  rw [← r.len]
  cases h : ixN xs.length i with
  | none => rw [h] at e; cases e
  | some j =>
    rw [h] at e
    exact RepPs.get r e
theorem atI_repW {K : PySem.W.Frag} {xs : List W} {vs : List V} {i : Int} {p : W} (r : RepWs K w xs vs) (e : atI xs i = some p) : ∃ z, atI vs i = some z ∧ RepW K w p z := by
  unfold atI at e ⊢
  rw [← Paired.length r]
  cases h : ixN xs.length i with
  | none => rw [h] at e; cases e
  | some j =>
    rw [h] at e
    have get : ∀ {xs : List W} {vs : List V} {j : Nat}, RepWs K w xs vs → xs[j]? = some p → ∃ z, vs[j]? = some z ∧ RepW K w p z := by
      intro xs vs j r
      induction r generalizing j with
      | nil => intro e; simp at e
      | cons a b ih =>
        intro e
        cases j with
        | zero =>
          simp at e
          subst e
          exact ⟨_, rfl, a⟩
        | succ j => exact ih (by simpa using e)
    exact get r e
theorem RepWk.get {K : PySem.W.Frag} {k : Key} {xs : List (Key × W)} {vs : List (Key × V)} (r : RepWk K w xs vs) : (∀ p, getK xs k = some p → ∃ v, valV vs k = some v ∧ RepW K w p v) ∧ (getK xs k = none → valV vs k = none) := by
  induction r with
  | nil => exact ⟨fun p e => by simp [getK] at e, fun _ => rfl⟩
  | @cons p q ps qs h t ih =>
    obtain ⟨k0, x⟩ := p
    obtain ⟨k1, v⟩ := q
    obtain ⟨rfl, h2⟩ := h
    by_cases e : k0 = k
    · have e1 : getK ((k0, x) :: ps) k = some x := by simp [getK, List.find?_cons, e]
      rw [e1, valV_pos e]
      exact ⟨fun p e => by cases e; exact ⟨v, rfl, h2⟩, fun e => by cases e⟩
    · have e1 : getK ((k0, x) :: ps) k = getK ps k := by simp [getK, List.find?_cons, e]
      rw [e1, valV_neg e]
      exact ih
theorem sub_snd (hu : X.A.units + 64 < cLine) (hr : HRel X.K S w H) (rx : RepW X.K w x v) (ry : RepW X.K w y u) (h : RdG X.K (RepW X.K) w (subOp x y S) Q) : rAnyIx X v u H Q := by
  cases x with
  | v a =>
    cases y with
    | c _ => exact h.elim
    | v b =>
      simp only [subOp] at h
      cases e : ixP a b with
      | none => rw [e] at h; exact h.elim
      | some p =>
        rw [e] at h
        have tx : RepT X.K w.F H a v := RepP.top hr.le rx
        have ty : RepT X.K w.F H b u := RepP.top hr.le ry
        unfold ixP at e
        split at e
        · obtain ⟨ad, vs, rfl, ho, r, z⟩ := tx
          cases T_int ty
          obtain ⟨z', e1, e2⟩ := atI_rep r e
          exact ⟨_, ix_list, ad, vs, _, z', rfl, rfl, SqL.of ho, e1, RdG.val h hr e2⟩
        · obtain ⟨ad, vs, rfl, ho, r, z⟩ := tx
          cases T_int ty
          obtain ⟨z', e1, e2⟩ := atI_rep r e
          exact ⟨_, ix_tup, ad, vs, _, z', rfl, rfl, ho, e1, RdG.val h hr e2⟩
        · cases T_str tx
          cases T_int ty
          split at e
          · rename_i s i hl
            cases e1 : atI s.cps.toList i with
            | none => rw [e1] at e; cases e
            | some c =>
              rw [e1] at e
              cases e
              exact ⟨_, ix_str, s, i, c, rfl, rfl, Nat.le_trans hl lim_le, e1, RdG.val h hr P_str⟩
          · cases e
        · obtain ⟨ad, kvs', o, rfl, ho, c, r, z⟩ := tx
          cases hk : keyOf b with
          | none => simp [hk] at e
          | some k =>
            simp [hk] at e
            cases key_t hk ty
            obtain ⟨z', e1, e2⟩ := (RepPk.get (k := k) r).1 p e
            exact ⟨_, ix_dict (by omega), ad, z', rfl, .inl ⟨kvs', k, rd_core ho c, rfl, e1.symm⟩, RdG.val h hr e2⟩
        · cases e
  | c n =>
    cases y with
    | c _ => exact h.elim
    | v b =>
      simp only [subOp] at h
      have ty : RepT X.K w.F H b u := RepP.top hr.le ry
      obtain ⟨ad, hn, rfl⟩ := rx
      cases hS : S[n]? with
      | none => rw [hS] at h; exact h.elim
      | some c =>
        rw [hS] at h
        rcases hr.cell n c ad hS hn with rfl | ⟨_, q⟩
        · cases b <;> exact h.elim
        · split at h
          · rename_i xs i hcc
            cases hcc
            obtain ⟨vs, ho, r, z⟩ := q
            cases T_int ty
            cases e : atI xs i with
            | none => rw [e] at h; exact h.elim
            | some p =>
              rw [e] at h
              obtain ⟨z', e1, e2⟩ := atI_repW r e
              exact ⟨_, ix_list, ad, vs, i, z', rfl, rfl, SqL.of ho, e1, h w _ _ (LeW.refl _) hr e2⟩
          · rename_i kvs hcc
            cases hcc
            obtain ⟨vs, ho, r, z⟩ := q
            split at h
            · rename_i k hk
              cases key_t hk ty
              split at h
              · rename_i p e
                obtain ⟨z', e1, e2⟩ := (RepWk.get (k := k) r).1 p e
                exact ⟨_, ix_dict (by omega), ad, z', rfl, .inl ⟨vs, k, .inl ho, rfl, e1.symm⟩, h w _ _ (LeW.refl _) hr e2⟩
              · exact h.elim
            · exact h.elim
          · exact h.elim
/-! ### slices -/
def rAnySl (X : Cx) : V → Option Int → Option Int → Hp → VK → Prop := fun x lo hi H Q => ∃ r, SlR X r ∧ r x lo hi H Q
theorem sl_any : SlR X (rAnySl X) := fun pins s σ H x v vl vu lo hi sl Q I rx hs pl pu ⟨r, o, q⟩ => o pins s σ H x v vl vu lo hi sl Q I rx hs pl pu q
theorem cut_rep {K : PySem.W.Frag} {F : Hp} {xs : List P} {vs : List V} (lo hi : Option Int) (r : RepPs K F xs vs) : RepPs K F (cutL xs lo hi) (cutV vs lo hi) := by
  unfold cutL cutV
  rw [← r.len]
  exact RepPs.take _ (RepPs.drop _ r)
theorem slc_snd {lo hi : Option Int} (hr : HRel X.K S w H) (rx : RepW X.K w x v) (h : RdG X.K (RepW X.K) w (slcOp x lo hi S) Q) : rAnySl X v lo hi H Q := by
  unfold slcOp at h
  split at h
  · rename_i xs hx
    obtain ⟨a, vs, rfl, ho, r, z⟩ := hr.view hx rx
    refine ⟨_, sl_list, a, vs, rfl, SqL.of ho, fun p hp => ?_⟩
    obtain ⟨w', lw, hr', rp⟩ := new_lst hr hp (cut_rep lo hi r) (Nat.le_trans (cutV_length vs lo hi) z)
    exact h w' _ _ lw hr' rp
  · rename_i s hx
    cases T_str (hr.view hx rx)
    split at h
    · rename_i hl
      exact ⟨_, sl_str, s, rfl, Nat.le_trans hl lim_le, RdG.val h hr P_str⟩
    · exact h.elim
  · rename_i xs hx
    obtain ⟨a, vs, rfl, ho, r, z⟩ := hr.view hx rx
    split at h
    · exact h.elim
    · rename_i hne
      refine ⟨_, sl_tup, a, vs, rfl, ho, by rw [← r.len]; exact hne, fun p hp => ?_⟩
      obtain ⟨w', lw, hr', rp⟩ := new_tup hr hp (cut_rep lo hi r) (Nat.le_trans (cutV_length vs lo hi) z)
      exact h w' _ _ lw hr' rp
  · exact h.elim

/-! ### built-in functions -/
def bfV : BF → Value
  | .len => .builtin "len" | .int => .type "int" | .str => .type "str" | .list => .type "list" | .tuple => .type "tuple" | .dict => .type "dict"
  | .repr => .builtin "repr" | .any => .builtin "any" | .all => .builtin "all" | .sorted => .builtin "sorted" | .max2 => .builtin "max"
  | _ => .builtin "isinstance"
theorem bools_rep {K : PySem.W.Frag} {F : Hp} : ∀ {ps : List P} {vs : List V} {bs : List Bool}, RepPs K F ps vs → bools ps = some bs → vs = bs.map V.bl
  | [], vs, bs, r, e => by
    unfold RepPs at r
    cases e
    exact r
  | p :: ps, vs, bs, r, e => by
    unfold RepPs at r
    obtain ⟨v, t, rfl, h1, h2⟩ := r
    cases p with
    | bl b =>
      cases h : bools ps with
      | none => simp [bools, h] at e
      | some cs =>
        simp [bools, h] at e
        subst e
        unfold RepP at h1
        rw [h1, bools_rep h2 h]
        rfl
    | _ => simp [bools] at e
theorem strs_rep {K : PySem.W.Frag} {F : Hp} : ∀ {ps : List P} {vs : List V} {bs : List Str}, RepPs K F ps vs → strsOf ps = some bs → vs = bs.map V.str
  | [], vs, bs, r, e => by
    unfold RepPs at r
    cases e
    exact r
  | p :: ps, vs, bs, r, e => by
    unfold RepPs at r
    obtain ⟨v, t, rfl, h1, h2⟩ := r
    cases p with
    | str b =>
      cases h : strsOf ps with
      | none => simp [strsOf, h] at e
      | some cs =>
        simp [strsOf, h] at e
        subst e
        unfold RepP at h1
        rw [h1, strs_rep h2 h]
        rfl
    | _ => simp [strsOf] at e
theorem pairs_rep {K : PySem.W.Frag} {F : Hp} : ∀ {ps : List P} {vs : List V} {kvs : List (Key × P)}, RepPs K F ps vs → pairsOf ps = some kvs →
    ∃ (as : List Addr) (kv : List (Key × V)), vs = as.map V.ref ∧ Paired (fun p z => SqT K F p [kV z.1, z.2]) as kv ∧ RepPk K F kvs kv
  | [], vs, kvs, r, e => by
    unfold RepPs at r
    cases e
    refine ⟨[], [], r, .nil, ?_⟩
    unfold RepPk
    rfl
  | p :: ps, vs, kvs, r, e => by
    unfold RepPs at r
    obtain ⟨v, t, rfl, h1, h2⟩ := r
    unfold pairsOf at e
    split at e
    · rename_i heq
      cases heq
    · rename_i k x l heq
      cases heq
      cases hk : keyOf k with
      | none => rw [hk] at e; cases e
      | some key =>
        cases hp : pairsOf ps with
        | none => rw [hk, hp] at e; cases e
        | some rest =>
          rw [hk, hp] at e
          cases e
          obtain ⟨as, kv, e1, e2, e3⟩ := pairs_rep h2 hp
          unfold RepP at h1
          obtain ⟨a, zs, rfl, s, rs, _⟩ := h1
          unfold RepPs at rs
          obtain ⟨v1, t1, rfl, q1, rs⟩ := rs
          unfold RepPs at rs
          obtain ⟨v2, t2, rfl, q2, rs⟩ := rs
          unfold RepPs at rs
          subst rs
          refine ⟨a :: as, (key, v2) :: kv, by rw [e1]; rfl, .cons (by rw [key_v hk q1] at s; exact s) e2, ?_⟩
          unfold RepPk
          exact ⟨v2, kv, rfl, q2, e3⟩
    · cases e
theorem RepPk.app {K : PySem.W.Frag} {F : Hp} : ∀ {xs ys : List (Key × P)} {vs us : List (Key × V)}, RepPk K F xs vs → RepPk K F ys us → RepPk K F (xs ++ ys) (vs ++ us)
  | [], ys, vs, us, q, r => by unfold RepPk at q; subst q; exact r
  | (k, x) :: xs, ys, vs, us, q, r => by
    unfold RepPk at q
    obtain ⟨v, t, rfl, h1, h2⟩ := q
    show RepPk K F ((k, x) :: (xs ++ ys)) ((k, v) :: (t ++ us))
    unfold RepPk
    exact ⟨v, _, rfl, h1, RepPk.app h2 r⟩
theorem RepPk.any {K : PySem.W.Frag} {F : Hp} (k : Key) : ∀ {xs : List (Key × P)} {vs : List (Key × V)}, RepPk K F xs vs → (xs.any fun q => decide (q.1 = k)) = (vs.any fun q => decide (q.1 = k))
  | [], vs, q => by unfold RepPk at q; subst q; rfl
  | (k0, x) :: xs, vs, q => by
    unfold RepPk at q
    obtain ⟨v, t, rfl, h1, h2⟩ := q
    rw [List.any_cons, List.any_cons, RepPk.any k h2]
theorem RepPk.put {K : PySem.W.Frag} {F : Hp} {k : Key} {p : P} {z : V} (hp : RepP K F p z) {xs : List (Key × P)} {vs : List (Key × V)} (r : RepPk K F xs vs) : RepPk K F (setK xs k p) (putK vs k z) := by
  unfold setK putK
  rw [RepPk.any k r]
  split
  · have m : ∀ {xs : List (Key × P)} {vs : List (Key × V)}, RepPk K F xs vs → RepPk K F (xs.map fun q => if q.1 = k then (q.1, p) else q) (vs.map fun q => if q.1 = k then (q.1, z) else q) := by
      intro xs
      induction xs with
      | nil =>
        intro vs r
        unfold RepPk at r
        subst r
        unfold RepPk
        rfl
      | cons a l ih =>
        intro vs r
        obtain ⟨k0, x⟩ := a
        unfold RepPk at r
        obtain ⟨v, t, rfl, h1, h2⟩ := r
        rw [List.map_cons, List.map_cons]
        by_cases e : k0 = k
        · rw [if_pos e, if_pos e]
          unfold RepPk
          exact ⟨z, _, rfl, hp, ih h2⟩
        · rw [if_neg e, if_neg e]
          unfold RepPk
          exact ⟨v, _, rfl, h1, ih h2⟩
    exact m r
  · refine RepPk.app r ?_
    unfold RepPk
    refine ⟨z, [], rfl, hp, ?_⟩
    unfold RepPk
    rfl
theorem putK_le {kvs : List (Key × V)} {k : Key} {v : V} : (putK kvs k v).length ≤ kvs.length + 1 := by
  unfold putK
  split
  · rw [List.length_map]; omega
  · rw [List.length_append]; exact Nat.le_refl _
theorem RepPk.merge {K : PySem.W.Frag} {F : Hp} : ∀ {ys : List (Key × P)} {us : List (Key × V)} {xs : List (Key × P)} {vs : List (Key × V)}, RepPk K F ys us → RepPk K F xs vs → RepPk K F (mergeP xs ys) (mergeK vs us)
  | [], us, xs, vs, q, r => by unfold RepPk at q; subst q; exact r
  | (k, y) :: ys, us, xs, vs, q, r => by
    unfold RepPk at q
    obtain ⟨v, t, rfl, h1, h2⟩ := q
    show RepPk K F (mergeP (setK xs k y) ys) (mergeK (putK vs k v) t)
    exact RepPk.merge h2 (RepPk.put h1 r)
theorem mergeK_le : ∀ (us : List (Key × V)) {vs : List (Key × V)}, (mergeK vs us).length ≤ vs.length + us.length
  | [], vs => Nat.le_refl _
  | (k, v) :: us, vs => by
    have h := mergeK_le us (vs := putK vs k v)
    have h2 := putK_le (kvs := vs) (k := k) (v := v)
    show (mergeK (putK vs k v) us).length ≤ vs.length + (us.length + 1)
    omega
theorem call_repr_D (hg : X.A.guards = some []) (hu : X.A.units + 66 < cLine) : CallR X (.builtin "repr") (fun xs H Q => ∃ a d, xs = [.ref a] ∧ Dp X.K H (.ref a) d ∧ SeqAt.shaped d = true ∧ d.showable = true ∧ d.shown.length ≤ sizeLine ∧ Q (.str d.shown) H) := by
  intro pins s σ H xs us Q I r h
  obtain ⟨a, d, rfl, hd, hsh, hs, hz, q⟩ := h
  obtain ⟨u, rfl, ru⟩ := vals1 r
  cases ru
  obtain ⟨as, rd⟩ := Dp.reads I d (.ref a) (.ref a) hd rfl
  have hdep := SeqAt.depth_of_shaped hsh
  exact repr_of_reads' (h₀ := s.heap) rd hs (PyData.noDict_hsm (PyData.hasDict_of_canLay d (SeqAt.canLay_of_shaped hsh))) hg (by omega) (fun _ _ e => e) (fun h' t tk hk => ⟨.str d.shown, H, I.kept hk, ⟨t, rfl⟩, q⟩) hz
theorem call_repr_flat : CallR X (.builtin "repr") (fun xs H Q => (xs = [.non] ∧ Q (.str (PyData.shown .none)) H) ∨ (∃ b, xs = [.bl b] ∧ Q (.str (PyData.shown (.bool b))) H) ∨ (∃ i, xs = [.int i] ∧ i.natAbs.log2 < 1920 ∧ Q (.str (PyData.shown (.int i))) H) ∨ ∃ x, xs = [.str x] ∧ (PyData.shown (.str x)).length ≤ sizeLine ∧ Q (.str (PyData.shown (.str x))) H) := by
  intro pins s σ H xs us Q I r h
  rcases h with ⟨rfl, q⟩ | ⟨b, rfl, q⟩ | ⟨i, rfl, hz, q⟩ | ⟨x, rfl, hz, q⟩
  · obtain ⟨u, rfl, ru⟩ := vals1 r
    cases ru
    exact PySem.P.repr_of_none ⟨.str _, H, I.tok _, ⟨_, rfl⟩, q⟩
  · obtain ⟨u, rfl, ru⟩ := vals1 r
    cases ru
    cases b with
    | true => exact PySem.P.repr_of_bool ⟨.str _, H, I.tok _, ⟨_, rfl⟩, q⟩
    | false => exact PySem.P.repr_of_bool ⟨.str _, H, I.tok _, ⟨_, rfl⟩, q⟩
  · obtain ⟨u, rfl, ru⟩ := vals1 r
    obtain ⟨t, rfl⟩ := ru
    exact PySem.P.repr_of_int hz ⟨.str _, H, I.tok _, ⟨_, rfl⟩, q⟩
  · obtain ⟨u, rfl, ru⟩ := vals1 r
    obtain ⟨t, rfl⟩ := ru
    exact PySem.P.repr_of_str ⟨.str _, H, I.tok _, ⟨_, rfl⟩, q⟩ (hsz := hz)
theorem one_of {α β : Type} {T : α → β → Prop} {p : α} {vs : List β} (r : Paired T [p] vs) : ∃ u, vs = [u] ∧ T p u := by
  cases r with
  | cons r1 r2 =>
    cases r2
    exact ⟨_, rfl, r1⟩
theorem two_of {α β : Type} {T : α → β → Prop} {p p' : α} {vs : List β} (r : Paired T [p, p'] vs) : ∃ u v, vs = [u, v] ∧ T p u ∧ T p' v := by
  cases r with
  | cons r1 r2 =>
    obtain ⟨v, rfl, r3⟩ := one_of r2
    exact ⟨_, v, rfl, r1, r3⟩
theorem rep_keysP {K : PySem.W.Frag} {F : Hp} : ∀ {ps : List (Key × P)} {vs : List (Key × V)}, RepPk K F ps vs → RepPs K F (ps.map fun z => kP z.1) (vs.map fun z => kV z.1)
  | [], vs, r => by unfold RepPk at r; subst r; unfold RepPs; rfl
  | (k, p) :: ps, vs, r => by
    unfold RepPk at r
    obtain ⟨v, t, rfl, _, h2⟩ := r
    show RepPs K F (kP k :: _) (kV k :: _)
    unfold RepPs
    refine ⟨_, _, rfl, ?_, rep_keysP h2⟩
    cases k
    · exact P_int
    · exact P_str
theorem call_lenRd : CallR X (.builtin "len") (fun xs H Q => ∃ a kvs, xs = [V.ref a] ∧ Rd H a (.dK kvs) ∧ Q (.int kvs.length) H) := by
  intro pins s σ H xs us Q I r h
  obtain ⟨a, kvs, rfl, ha, q⟩ := h
  obtain ⟨u, rfl, ru⟩ := vals1 r
  cases ru
  exact d_len I ha fun t s' I' => ⟨.int kvs.length, H, I', ⟨t, rfl⟩, q⟩
theorem bf_snd (f : BF) (hc : X.calm = true) (hg : X.A.guards = some []) (hu : X.A.units + 66 < cLine) {ps : List P} {vs : List V} {p : P} (hr : HRel X.K S w H) (r : Paired (RepT X.K w.F H) ps vs) (e : bfOp f ps = some p)
    (q : ∀ w' v H', LeW w w' → HRel X.K S w' H' → RepP X.K w'.F p v → Q v H') : f = .isStr ∨ rAnyCall X (bfV f) vs H Q := by
  unfold bfOp at e
  split at e
  case h_13 => exact .inl rfl
  case h_17 => cases e
  · obtain ⟨u, rfl, r1⟩ := one_of r
    right
    cases T_str r1
    split at e
    · rename_i hl
      cases e
      exact ⟨_, call_len_str, _, rfl, Nat.le_trans hl lim_le, q w _ _ (LeW.refl _) hr P_int⟩
    · cases e
  · obtain ⟨u, rfl, r1⟩ := one_of r
    right
    obtain ⟨a, us, rfl, ho, rs, z⟩ := r1
    cases e
    exact ⟨_, call_len_seq, a, us, rfl, .inl (SqL.of ho), q w _ _ (LeW.refl _) hr (by rw [rs.len]; exact P_int)⟩
  · obtain ⟨u, rfl, r1⟩ := one_of r
    right
    obtain ⟨a, us, rfl, ho, rs, z⟩ := r1
    cases e
    exact ⟨_, call_len_seq, a, us, rfl, .inr ho, q w _ _ (LeW.refl _) hr (by rw [rs.len]; exact P_int)⟩
  · obtain ⟨u, rfl, r1⟩ := one_of r
    right
    obtain ⟨a, us, o, rfl, ho, c, rs, z⟩ := r1
    cases e
    exact ⟨_, call_lenRd, a, us, rfl, rd_core ho c, q w _ _ (LeW.refl _) hr (by rw [rs.len]; exact P_int)⟩
  · obtain ⟨u, rfl, r1⟩ := one_of r
    right
    cases T_int r1
    cases e
    exact ⟨_, call_int1, .inl ⟨_, rfl, q w _ _ (LeW.refl _) hr P_int⟩⟩
  · obtain ⟨u, rfl, r1⟩ := one_of r
    right
    cases T_str r1
    cases e
    exact ⟨_, SkE.call_str_str, _, rfl, q w _ _ (LeW.refl _) hr P_str⟩
  · obtain ⟨u, rfl, r1⟩ := one_of r
    right
    obtain ⟨a, us, rfl, ho, rs, z⟩ := r1
    cases e
    refine ⟨_, call_list_of, a, us, rfl, .inl (SqL.of ho), fun l hl => ?_⟩
    obtain ⟨w', lw, hr', rp⟩ := new_lst hr hl rs z
    exact q w' _ _ lw hr' rp
  · obtain ⟨u, rfl, r1⟩ := one_of r
    right
    obtain ⟨a, us, rfl, ho, rs, z⟩ := r1
    cases e
    refine ⟨_, call_list_of, a, us, rfl, .inr ho, fun l hl => ?_⟩
    obtain ⟨w', lw, hr', rp⟩ := new_lst hr hl rs z
    exact q w' _ _ lw hr' rp
  · obtain ⟨u, rfl, r1⟩ := one_of r
    right
    obtain ⟨a, us, rfl, ho, rs, z⟩ := r1
    rename_i l
    cases hp : pairsOf l with
    | none => rw [hp] at e; cases e
    | some kvs =>
      rw [hp] at e
      cases e
      obtain ⟨as, kv, e1, e2, e3⟩ := pairs_rep rs hp
      subst e1
      refine ⟨_, call_dictP hc, a, as, kv, rfl, SqL.of ho, Paired.mapP e2 fun _ _ s => hr.le.sqT s, fun p hp' => ?_⟩
      have hz : (mergeK [] kv).length ≤ sizeLine := by
        have h1 := mergeK_le kv (vs := [])
        have h2 := Paired.length e2
        rw [List.length_map] at z
        rw [List.length_nil] at h1
        omega
      obtain ⟨w', lw, hr', rp⟩ := new_dct hr hp' (RepPk.merge e3 (xs := []) (vs := []) (by unfold RepPk; rfl)) hz
      exact q w' _ _ lw hr' rp
  · obtain ⟨u, rfl, r1⟩ := one_of r
    right
    rename_i p0
    cases hp : reprP p0 with
    | none => rw [hp] at e; cases e
    | some t =>
      rw [hp] at e
      cases e
      unfold reprP at hp
      cases hpy : p0.py with
      | none => rw [hpy] at hp; cases hp
      | some d =>
        rw [hpy] at hp
        simp only at hp
        split at hp
        · rename_i hs
          simp only [Bool.and_eq_true, decide_eq_true_eq] at hs
          cases hp
          have hd := py_Dp p0 (r1.all hr.le) hpy
          have qq := q w _ _ (LeW.refl _) hr (P_str (i := d.shown))
          have seq : (∃ a, u = .ref a) → rAnyCall X (bfV .repr) [u] H Q := fun ⟨a, ea⟩ => by
            subst ea
            exact ⟨_, call_repr_D hg hu, a, d, rfl, hd, hs.1.1, hs.1.2, Nat.le_trans hs.2 lim_le, qq⟩
          cases p0 with
          | lst _ => obtain ⟨a, _, rfl, _⟩ := r1; exact seq ⟨a, rfl⟩
          | tup _ => obtain ⟨a, _, rfl, _⟩ := r1; exact seq ⟨a, rfl⟩
          | non =>
            cases T_non r1
            cases hpy
            exact ⟨_, call_repr_flat, .inl ⟨rfl, qq⟩⟩
          | bl b =>
            cases T_bl r1
            cases hpy
            exact ⟨_, call_repr_flat, .inr (.inl ⟨b, rfl, qq⟩)⟩
          | int i =>
            cases T_int r1
            cases hpy
            have h19 : i.natAbs.log2 < 1920 := by simpa [PyData.showable] using hs.1.2
            exact ⟨_, call_repr_flat, .inr (.inr (.inl ⟨i, rfl, h19, qq⟩))⟩
          | str x =>
            cases T_str r1
            cases hpy
            exact ⟨_, call_repr_flat, .inr (.inr (.inr ⟨x, rfl, Nat.le_trans hs.2 lim_le, qq⟩))⟩
          | dct _ => cases hpy
          | obj _ _ => cases hpy
          | scr _ => cases hpy
        · cases hp
  · obtain ⟨u, rfl, r1⟩ := one_of r
    right
    obtain ⟨a, us, rfl, ho, rs, z⟩ := r1
    rename_i l
    cases hp : bools l with
    | none => rw [hp] at e; cases e
    | some bs =>
      rw [hp] at e
      cases e
      cases bools_rep rs hp
      exact ⟨_, cr_any hc, a, bs, rfl, SqL.of ho, q w _ _ (LeW.refl _) hr P_bl⟩
  · obtain ⟨u, rfl, r1⟩ := one_of r
    right
    obtain ⟨a, us, rfl, ho, rs, z⟩ := r1
    rename_i l
    cases hp : bools l with
    | none => rw [hp] at e; cases e
    | some bs =>
      rw [hp] at e
      cases e
      cases bools_rep rs hp
      exact ⟨_, cr_all hc, a, bs, rfl, SqL.of ho, q w _ _ (LeW.refl _) hr P_bl⟩
  · obtain ⟨u, v, rfl, r1, r2⟩ := two_of r
    right
    cases T_int r1
    cases T_int r2
    cases e
    exact ⟨_, call_max2 hc, _, _, rfl, q w _ _ (LeW.refl _) hr P_int⟩
  · obtain ⟨u, rfl, r1⟩ := one_of r
    right
    obtain ⟨a, us, o, rfl, ho, c, rs, z⟩ := r1
    cases e
    refine ⟨_, call_dictD, a, us, rfl, rd_core ho c, fun p hp => ?_⟩
    obtain ⟨w', lw, hr', rp⟩ := new_dct hr hp rs z
    exact q w' _ _ lw hr' rp
  · obtain ⟨u, rfl, r1⟩ := one_of r
    right
    obtain ⟨a, us, o, rfl, ho, c, rs, z⟩ := r1
    cases e
    refine ⟨_, call_listD hc, a, us, rfl, rd_core ho c, fun p hp => ?_⟩
    obtain ⟨w', lw, hr', rp⟩ := new_lst hr hp (rep_keysP rs) (by simpa using z)
    exact q w' _ _ lw hr' rp
end
end LS

set_option Elab.async false
set_option linter.all false
set_option maxRecDepth 100000
/-! LS6: where a text stands, and which text a small term is of. -/
namespace LS
open PySem PySem.Spec PyProof.Rows L2

/-! ### calls of the text's own defs -/
/-- a def (or a class) called with so many values -/
def FnG (P : Program) (w : World) (K : PySem.W.Frag) (mg : Str → Option Value) (base : Heap) (k : Nat) (f : Addr) (sp : List V → Hp → VK → Prop) : Prop :=
  ∀ (A : Around) (outer : List PySem.Env) (s : Shared) (H : Hp) (us : List Value) (vs : List V) (Q : VK), Room k A → A.guards = some [] → Env0 P w K mg base A outer s H → Vals vs us → sp vs H Q →
    codeAny (model P w) A (.call (.ref f) ⟨us, []⟩) (CR CX0 outer P w H s Q E0) s
theorem FnG.call {X : Cx} {k : Nat} {f : Addr} {sp : List V → Hp → VK → Prop} (F : FnG X.prog X.w X.K X.mg X.base k f sp) (hr : Room k X.A) (hg : X.A.guards = some []) : CallR X (.ref f) sp := by
  intro pins s σ H vs us Q I r h
  refine wpAny_call (codeAny_mono (F X.A X.stack s H us vs Q hr hg I.env0 r h) fun r s' hq => ?_)
  cases r with
  | error e => exact False.elim hq
  | ok fl =>
    cases fl with
    | ret u => exact I.after hq
    | next => exact False.elim hq
    | brk => exact False.elim hq
    | cont => exact False.elim hq
/-- the same at any call of this program's -/
def CallG (P : Program) (w : World) (K : PySem.W.Frag) (mg : Str → Option Value) (base : Heap) (k : Nat) (f : Addr) (sp : List V → Hp → VK → Prop) : Prop :=
  ∀ X : Cx, X.prog = P → X.w = w → X.K = K → X.mg = mg → X.base = base → Room k X.A → X.A.guards = some [] → CallR X (.ref f) sp
theorem FnG.callG {P : Program} {w : World} {K : PySem.W.Frag} {mg : Str → Option Value} {base : Heap} {k : Nat} {f : Addr} {sp : List V → Hp → VK → Prop} (F : FnG P w K mg base k f sp) : CallG P w K mg base k f sp := by
  intro X h1 h2 h3 h4 h5 hr hg
  subst h1 h2 h3 h4 h5
  exact F.call hr hg
theorem CallG.at {X : Cx} {k : Nat} {f : Addr} {sp : List V → Hp → VK → Prop} (F : CallG X.prog X.w X.K X.mg X.base k f sp) (hr : Room k X.A) (hg : X.A.guards = some []) : CallR X (.ref f) sp := F X rfl rfl rfl rfl rfl hr hg
/-- what a call is to reach -/
def rFn (K : PySem.W.Frag) (C : Cn) (f : Str) : List V → Hp → VK → Prop := fun vs H Q => ∃ w S ws, HRel K S w H ∧ RepWs K w ws vs ∧ RdG K (RepW K) w (C.call f ws S) Q

/-! ### where a text stands -/
structure Ct where
  N : List Str
  sc : Scope
  fn : Str → Bool
def bltNames : List Str := ["len", "int", "str", "list", "tuple", "dict", "repr", "any", "all", "sorted", "max", "isinstance", "range", "bool", "set"]
structure Gd (C : Cn) (ct : Ct) (k : Nat) (X : Cx) : Prop where
  calm : X.calm = true
  N : X.N = ct.N
  nd : ct.N.Nodup
  sc : X.env.scope = ct.sc
  fn : X.fn = ct.fn
  room : Room k X.A
  hg : X.A.guards = some []
  glo : ∀ x p, C.g.glo x = some p → ∃ v u, X.mg x = some u ∧ RelV v u ∧ ∀ F, RepP X.K F p v
  blt : ∀ x ∈ bltNames, X.mg x = none
  fld : ∀ c f, C.g.fld c f = true → Cls X.K (He.ga X.K c) ∧ NoAttr X.K (He.ga X.K c) f
  def_ : ∀ f, C.g.fn f = true → ∃ fa, X.mg f = some (.ref fa) ∧ PySem.W.keepIn X.K (.ref fa) = true ∧ CallG X.prog X.w X.K X.mg X.base k fa (rFn X.K C f)
  met : ∀ c m, C.g.met c m = true → ∃ fa, Cls X.K (He.ga X.K c) ∧ Meth X.K (He.ga X.K c) m fa ∧ CallG X.prog X.w X.K X.mg X.base k fa (rFn X.K C (c ++ "." ++ m))
def relabelS (scope sc : Scope) : Scope :=
  { scope with names := scope.names.map fun (n, k) => if (k == .free && sc.kind == .function && sc.names.lookup n == some .cell) then (n, .cell) else (n, k) }
def Ct.blk (ct : Ct) (scope : Scope) : Ct := ⟨ct.N, relabelS scope ct.sc, fun x => scope.names.lookup x == some .cell⟩
theorem Gd.blk {C : Cn} {ct : Ct} {k : Nat} {X : Cx} (G : Gd C ct k X) (scope : Scope) (s : Shared) (H : Hp) (D : Addr) (cl : List (Str × Addr)) (fp : List Addr) :
    Gd C (ct.blk scope) k (X.blk s H scope (compEnvC scope cl D X.env) fp) :=
  ⟨G.calm, G.N, G.nd, by
    show relabel scope X.env = relabelS scope ct.sc
    unfold relabel relabelS
    rw [← G.sc]
    rfl, rfl, G.room, G.hg, G.glo, G.blt, G.fld, G.def_, G.met⟩
def visB (sc : Scope) (x : Str) : Bool := match sc.names.lookup x with
  | some .local => true
  | some .cell => true
  | some .free => true
  | _ => false
theorem vis_ok {sc : Scope} {x : Str} (h : visB sc x = true) : Vis sc x := by
  unfold visB at h
  unfold Vis
  split at h <;> first
    | exact .inl (by assumption)
    | exact .inr (.inl (by assumption))
    | exact .inr (.inr (by assumption))
    | cases h
def gloB (sc : Scope) (x : Str) : Bool := match sc.names.lookup x with
  | some .globalImplicit => true
  | _ => false
theorem glo_ok {X : Cx} {sc : Scope} {x : Str} (e : X.env.scope = sc) (h : gloB sc x = true) : Gl X x := by
  unfold gloB at h
  unfold Gl
  show X.env.scope.names.lookup x = _
  rw [e]
  split at h
  · assumption
  · cases h
/-- a name that is stored -/
def locB (ct : Ct) (x : Str) : Bool := match ct.sc.names.lookup x with
  | some .local => true
  | some .cell => ct.fn x
  | _ => false
theorem loc_ok {C : Cn} {ct : Ct} {k : Nat} {X : Cx} (G : Gd C ct k X) {x : Str} (h : locB ct x = true) : L2.Loc X.env.scope x ∧ (X.fn x = true ∨ X.env.scope.names.lookup x = some .local) := by
  unfold locB at h
  unfold L2.Loc
  rw [G.sc, G.fn]
  split at h
  · exact ⟨.inl (by assumption), .inr (by assumption)⟩
  · exact ⟨.inr (by assumption), .inl h⟩
  · cases h

/-! ### the method call's own form -/
theorem meth_eq {o : Expr} {m : Str} {apos pos : Pos} {args : List Expr} {env : PySem.Env} (hb : notSuper o = true) (hs : args.all notStar = true) (hn : args.length < 29) (hl : (apos.endLine == pos.line) = true) :
    eval (.Call (.Attribute o m apos) args [] pos) env = (do
      let ov ← eval o env
      standAt apos.atName
      let (f, first) ← holding [ov] (getMethod ov m (do return (← importBound o env).getD true))
      callWith pos f first (backTo pos (starEach args env)) (backToKw pos (keywordEach [] env))) := by
  have e0 : eval (.Call (.Attribute o m apos) args [] pos) env = (do
      let ov ← attributeBase o m env (eval o env)
      standAt apos.atName
      methodCall o m apos pos env ov (args.length + ([] : List Keyword).length) (backTo pos (starEach args env)) (backToKw pos (keywordEach [] env))) := rfl
  have e1 : ∀ {l : List Expr}, l.all notStar = true → (backTo pos (starEach l env)).all (fun x => !x.1) = true := fun {l} h => by
    induction l with
    | nil => rfl
    | cons a l ih =>
      simp only [List.all_cons, Bool.and_eq_true] at h
      rw [starEach_ns h.1]
      show (true && (backTo pos (starEach l env)).all (fun x => !x.1)) = true
      rw [ih h.2]
      rfl
  have hf : methodCallForm (args.length + ([] : List Keyword).length) (backTo pos (starEach args env)) (backToKw pos (keywordEach [] env)) = true := by
    unfold methodCallForm
    rw [show ((backTo pos (starEach args env)).all fun x => !x.1) = true from e1 hs]
    have : decide (args.length + 0 + 0 < 30) = true := decide_eq_true (by omega)
    show (true && true && decide (args.length + 0 + (if ([] : List (Option Str × Sem Value)).isEmpty = true then 0 else 1) < 30)) = true
    exact this
  have hp : methodCallPos true o env apos pos = pure pos := by
    unfold methodCallPos
    rw [hl]
    rfl
  rw [e0, attrBase_ns hb]
  unfold methodCall
  rw [hf]
  simp only [hp, calleeOf, if_true, pure_bind]
end LS

set_option Elab.async false
set_option linter.all false
set_option maxRecDepth 100000
/-! LS7: which text a small term is of. -/
namespace LS
open PySem PySem.Spec PyProof.Rows L2

/-- what the text of such a call is, but for its values -/
def pfArg : PF → List Expr → Option Expr
  | .isInt, [e, _] => some e
  | .isBool, [e, _] => some e
  | .isRow, [e, _] => some e
  | .intB, [e] => some e
  | .tuple, [e] => some e
  | .lenSet, [.Call (.Name _ _) [e] [] _] => some e
  | _, _ => none
def litB : P → Const → Bool
  | .non, .none => true
  | .bl b, .bool c => b == c
  | .int i, .int j => decide (i = j)
  | .str s, .str t => decide (s = t)
  | _, _ => false
def boB (o : BO) (p : Operator) : Bool := decide (boOp o = p)
def coB (o : CO) (p : CmpOp) : Bool := decide (coOp o = p)
def bfName : BF → Str
  | .len => "len" | .int => "int" | .str => "str" | .list => "list" | .tuple => "tuple" | .dict => "dict"
  | .repr => "repr" | .any => "any" | .all => "all" | .sorted => "sorted" | .max2 => "max" | _ => "isinstance"
def bmName : BM → Str
  | .append => "append" | .extend => "extend" | .pop0 => "pop" | .popAt => "pop" | .insert => "insert" | .split => "split" | .join => "join" | .get => "get" | .get2 => "get" | .items => "items"
def bmOk : BM → Bool
  | .append => true | .extend => true | .pop0 => true | .join => true | .split => true
  | _ => false
def hasB (neg : Bool) (p : CmpOp) : Bool := decide ((if neg = true then CmpOp.NotIn else CmpOp.In) = p)
def nmB (N : List Str) (i : Nat) (x : Str) : Bool := decide (N[i]? = some x)
def okName (x : Str) : Bool := !(x == ("__debug__" : Str)) && !(x == ("__classdict__" : Str)) && decide (x ≠ "__name__")
def tgB (ct : Ct) : Tg → Expr → Bool
  | .name i, .Name x _ => nmB ct.N i x && locB ct x
  | .tup is, .Tuple es _ _ => go is es
  | _, _ => false
where go : List Nat → List Expr → Bool
  | [], [] => true
  | i :: is, .Name x _ :: es => nmB ct.N i x && locB ct x && go is es
  | _, _ => false
def gB (ct : Ct) (x y : Str) : Bool := decide (x = y) && gloB ct.sc y && okName y
def pfHead (ct : Ct) (f : PF) (g : Str) (es : List Expr) : Bool := match f, es with
  | .isInt, [_, .Name c _] => gB ct "isinstance" g && gB ct "int" c
  | .isBool, [_, .Name c _] => gB ct "isinstance" g && gB ct "bool" c
  | .isRow, [_, .Tuple [.Name c _, .Name d _] _ _] => gB ct "isinstance" g && gB ct "list" c && gB ct "tuple" d
  | .intB, [_] => gB ct "int" g
  | .tuple, [_] => gB ct "tuple" g
  | .lenSet, [.Call (.Name c _) [_] [] _] => gB ct "len" g && gB ct "set" c
  | _, _ => false
/-- a test's form -/
def tsE : E → Expr → Bool
  | .and a b, .BoolOp .And (v :: w :: rest) pos => tsE a v && (match rest with
    | [] => tsE b w
    | _ :: _ => tsE b (.BoolOp .And (w :: rest) pos))
  | .or a b, .BoolOp .Or (v :: w :: rest) pos => tsE a v && (match rest with
    | [] => tsE b w
    | _ :: _ => tsE b (.BoolOp .Or (w :: rest) pos))
  | .not a, .UnaryOp .Not x _ => tsE a x
  | .cmp _ _ _, _ => true
  | .has _ _ _, _ => true
  | .chn _ _ _ _ _, _ => true
  | _, x => plainTest x
def Tg.slots : Tg → List Nat
  | .name i => [i]
  | .tup is => is
def tgIn (own : List (Str × Nat)) (tg : Tg) : Bool := tg.slots.all fun i => decide (i ∈ own.map (·.2))
def isTupE : Expr → Bool
  | .Tuple _ _ _ => true
  | _ => false
def notIsStr : BF → Bool
  | .isStr => false
  | _ => true
mutual
def chE (ct : Ct) : E → Expr → Bool
  | .var i, .Name x _ => nmB ct.N i x && visB ct.sc x && okName x
  | .lit p, .Constant c _ _ => litB p c
  | .lit (.int i), .UnaryOp .USub (.Constant (.int j) _ _) _ => decide (i = -j)
  | .glo x, .Name y _ => gB ct x y
  | .bin o a b, .BinOp l p r _ => boB o p && chE ct a l && chE ct b r
  | .cmp o a b, .Compare l [p] [r] _ => coB o p && chE ct a l && chE ct b r && !behindInMarks p r
  | .chn o o' a b c, .Compare l [p, p'] [m, r] _ => coB o p && coB o' p' && chE ct a l && chE ct b m && chE ct c r && !lastMarks [p, p'] [m, r]
  | .and a b, .BoolOp .And (v :: w :: rest) pos => chE ct a v && (match rest with
    | [] => chE ct b w
    | _ :: _ => chE ct b (.BoolOp .And (w :: rest) pos))
  | .or a b, .BoolOp .Or (v :: w :: rest) pos => chE ct a v && (match rest with
    | [] => chE ct b w
    | _ :: _ => chE ct b (.BoolOp .Or (w :: rest) pos))
  | .not a, .UnaryOp .Not x _ => chE ct a x
  | .ite t a b, .IfExp c x y _ => chE ct t c && tsE t c && chE ct a x && chE ct b y
  | .tup l, .Tuple es _ _ => chL ct l es
  | .lst _ l, .List es _ => chL ct l es
  | .dic _ l, .Dict ks vs _ => chK ct l ks vs && decide (ks.length ≤ 15)
  | .lc _ own tg it ifs elt, .ListComp x [⟨t, i, cs, ay⟩] scope _ => decide (ay = 0) && (blkC ct.N ct.sc scope own && tgIn own tg && chI ct it i t && notSetE i && tgB (ct.blk scope) tg t && chIf (ct.blk scope) ifs cs && chE (ct.blk scope) elt x)
  | .dc _ own tg it ifs k v, .DictComp x y [⟨t, i, cs, ay⟩] scope _ => decide (ay = 0) && (blkC ct.N ct.sc scope own && tgIn own tg && chI ct it i t && notSetE i && tgB (ct.blk scope) tg t && chIf (ct.blk scope) ifs cs && chE (ct.blk scope) k x && chE (ct.blk scope) v y)
  | .sub a i, .Subscript x y _ => chE ct a x && chE ct i y && notSlice y
  | .slc a lo hi, .Subscript x (.Slice l u none _) _ => chE ct a x && chO ct lo l && chO ct hi u
  | .att a f, .Attribute x g _ => chE ct a x && decide (f = g) && notSuper x
  | .call f l, .Call (.Name g _) es [] _ => gB ct f g && chL ct l es && es.all notStar
  | .make f l, .Call (.Name g _) es [] _ => gB ct f g && chL ct l es && es.all notStar
  | .meth a m l, .Call (.Attribute x g apos) es [] pos => chE ct a x && decide (m = g) && notSuper x && chL ct l es && es.all notStar && decide (es.length < 29) && (apos.endLine == pos.line)
  | .bm m a l, .Call (.Attribute x g apos) es [] pos => bmOk m && !es.isEmpty && chE ct a x && decide (bmName m = g) && notSuper x && chL ct l es && es.all notStar && decide (es.length < 29) && (apos.endLine == pos.line)
  | .bf .isStr l, .Call (.Name g _) [e, .Name c _] [] _ => gB ct "isinstance" g && gB ct "str" c && chL ct l [e] && notStar e
  | .bf f l, .Call (.Name g _) [e] [] _ => notIsStr f && gB ct (bfName f) g && chL ct l [e] && notStar e
  | .listC a, .Call (.Name g _) [e] [] _ => gB ct "list" g && chE ct a e && notStar e
  | .listItems _ a, .Call (.Name g _) [.Call (.Attribute x f apos) [] [] cpos] [] _ => gB ct "list" g && chE ct a x && decide (f = "items") && notSuper x && (apos.endLine == cpos.line)
  | .mx l, .Call (.Name g _) [e, e'] [] _ => gB ct "max" g && chL ct l [e, e'] && notStar e && notStar e'
  | .has neg a b, .Compare l [p] [r] _ => hasB neg p && chE ct a l && chE ct b r && !behindInMarks p r
  | .fstr l, .JoinedStr (v :: w :: vs) _ => chJ ct l (v :: w :: vs)
  | .pf f a, .Call (.Name g _) es [] _ => pfHead ct f g es && (match pfArg f es with
    | some e => chE ct a e && notStar e
    | none => false)
  | .get a k, .Call (.Attribute x g apos) [e] [] pos => chE ct a x && decide (g = "get") && notSuper x && chE ct k e && notStar e && (apos.endLine == pos.line)
  | .get2 a k d, .Call (.Attribute x g apos) [e, e'] [] pos => chE ct a x && decide (g = "get") && notSuper x && chE ct k e && chE ct d e' && notStar e && notStar e' && (apos.endLine == pos.line)
  | _, _ => false
def chL (ct : Ct) : E → List Expr → Bool
  | .nil, [] => true
  | .cons a l, e :: es => notStar e && chE ct a e && chL ct l es
  | .star a l, .Starred e _ :: es => chE ct a e && chL ct l es
  | _, _ => false
def chK (ct : Ct) : E → List (Option Expr) → List Expr → Bool
  | .nil, [], [] => true
  | .kv k v l, some x :: ks, y :: vs => chE ct k x && chE ct v y && chK ct l ks vs
  | _, _, _ => false
def chJ (ct : Ct) : E → List Expr → Bool
  | .nil, [] => true
  | .star a l, .Constant c j p :: es => chE ct a (.Constant c j p) && chJ ct l es
  | .cons a l, .FormattedValue e k none _ :: es => decide (k = -1) && chE ct a e && chJ ct l es
  | _, _ => false
def chI (ct : Ct) : E → Expr → Expr → Bool
  | .it a, e, _ => chE ct a e
  | .rng l, .Call (.Name g _) [e] [] _, _ => gB ct "range" g && chL ct l [e] && notStar e
  | .rng l, .Call (.Name g _) [e, e'] [] _, _ => gB ct "range" g && chL ct l [e, e'] && notStar e && notStar e'
  | .vals a, .Call (.Attribute x g apos) [] [] pos, _ => chE ct a x && decide (g = "values") && notSuper x && (apos.endLine == pos.line)
  | .items a, .Call (.Attribute x g apos) [] [] pos, t => chE ct a x && decide (g = "items") && notSuper x && (apos.endLine == pos.line) && isTupE t
  | _, _, _ => false
def chO (ct : Ct) : E → Option Expr → Bool
  | .nil, none => true
  | .cons a _, some e => chE ct a e
  | _, _ => false
def chIf (ct : Ct) : E → List Expr → Bool
  | .nil, [] => true
  | .cons a _, [e] => chE ct a e && tsE a e
  | _, _ => false
end
end LS

set_option Elab.async false
set_option linter.all false
set_option maxRecDepth 100000
set_option maxHeartbeats 1000000
/-! LS8: expressions, case by case. -/
namespace LS
open PySem PySem.Spec PyProof.Rows L2
section
variable {X : Cx} {C : Cn} {ct : Ct} {k : Nat} {pos : Pos}
theorem okName_1 {x : Str} (h : okName x = true) : (x == ("__debug__" : Str)) = false := by
  unfold okName at h
  simp only [Bool.and_eq_true, Bool.not_eq_true'] at h
  exact h.1.1
theorem okName_2 {x : Str} (h : okName x = true) : (x == ("__classdict__" : Str)) = false := by
  unfold okName at h
  simp only [Bool.and_eq_true, Bool.not_eq_true'] at h
  exact h.1.2
theorem okName_3 {x : Str} (h : okName x = true) : x ≠ "__name__" := by
  unfold okName at h
  simp only [Bool.and_eq_true, Bool.not_eq_true', decide_eq_true_eq] at h
  exact h.2
theorem nm_ok (G : Gd C ct k X) {i : Nat} {x : Str} (h : nmB ct.N i x = true) : X.N[i]? = some x := by
  rw [G.N]
  exact of_decide_eq_true h
theorem Gd.nd' (G : Gd C ct k X) : X.N.Nodup := by
  rw [G.N]
  exact G.nd
theorem Gd.hu (G : Gd C ct k X) : X.A.units + 200 < cLine := by
  have := G.room.un
  omega
theorem c_var (G : Gd C ct k X) {i : Nat} {x : Str} (h : (nmB ct.N i x && visB ct.sc x && okName x) = true) : PE X (.Name x pos) (tE X.K C (.var i)) := by
  simp only [Bool.and_eq_true] at h
  refine PE.weak (pe_var (nm_ok G h.1.1) (by rw [G.sc]; exact vis_ok h.1.2) (okName_1 h.2) (okName_2 h.2)) fun σ H Q q => ?_
  obtain ⟨w, env, S, hr, he, q⟩ := q
  simp only [evE] at q
  split at q
  · rename_i x0 hx
    obtain ⟨v, e1, e2⟩ := he.2 i x0 hx
    exact ⟨v, e1, q w v H (LeW.refl _) hr e2⟩
  · exact q.elim
theorem c_lit {p : P} {c : Const} {j : Nat} (h : litB p c = true) : PE X (.Constant c j pos) (tE X.K C (.lit p)) := by
  have fin : ∀ {v : V} {σ : L2.St} {H : Hp} {Q : VK}, (∀ F, RepP X.K F p v) → tE X.K C (.lit p) σ H Q → Q v H := fun {v σ H Q} r ⟨w, env, S, hr, he, q⟩ => by
    simp only [evE] at q
    exact q w v H (LeW.refl _) hr (r _)
  cases p with
  | non =>
    cases c with
    | none => exact PE.weak pe_non fun σ H Q q => fin (fun _ => P_non) q
    | _ => cases h
  | bl b =>
    cases c with
    | bool d =>
      have e : b = d := by simpa [litB] using h
      subst e
      exact PE.weak pe_bl fun σ H Q q => fin (fun _ => P_bl) q
    | _ => cases h
  | int b =>
    cases c with
    | int d =>
      have e : b = d := of_decide_eq_true h
      subst e
      exact PE.weak pe_int fun σ H Q q => fin (fun _ => P_int) q
    | _ => cases h
  | str b =>
    cases c with
    | str d =>
      have e : b = d := of_decide_eq_true h
      subst e
      exact PE.weak pe_str fun σ H Q q => fin (fun _ => P_str) q
    | _ => cases h
  | _ => cases h
theorem gB_ok (G : Gd C ct k X) {x y : Str} (h : gB ct x y = true) : x = y ∧ Gl X y ∧ okName y = true := by
  unfold gB at h
  simp only [Bool.and_eq_true, decide_eq_true_eq] at h
  exact ⟨h.1.1, glo_ok G.sc h.1.2, h.2⟩
theorem c_glo (G : Gd C ct k X) {x y : Str} (h : gB ct x y = true) : PE X (.Name y pos) (tE X.K C (.glo x)) := by
  obtain ⟨rfl, hg, ho⟩ := gB_ok G h
  refine PE.pick fun σ H Q q => ?_
  obtain ⟨w, env, S, hr, he, q⟩ := q
  simp only [evE] at q
  split at q
  · rename_i p hp
    obtain ⟨v, u, e1, e2, e3⟩ := G.glo x p hp
    exact ⟨_, pe_glob hg e1 e2 (okName_1 ho), q w v H (LeW.refl _) hr (e3 _)⟩
  · exact q.elim
theorem c_bin {o : BO} {p : Operator} {a b : E} {l r : Expr} (h : boB o p = true) (ha : PE X l (tE X.K C a)) (hb : PE X r (tE X.K C b)) : PE X (.BinOp l p r pos) (tE X.K C (.bin o a b)) := by
  have e : boOp o = p := of_decide_eq_true h
  subst e
  refine PE.weak (pe_op (op_any _) ha hb) fun σ H Q q => ?_
  obtain ⟨w, env, S, hr, he, q⟩ := q
  simp only [evE] at q
  refine ⟨w, env, S, hr, he, (q.step (rel := RepW X.K)).imp fun v H1 h1 => ?_⟩
  obtain ⟨w1, x, S1, l1, hr1, r1, q1⟩ := h1
  refine ⟨w1, env, S1, hr1, he.mono l1, (q1.step (rel := RepW X.K)).imp fun u H2 h2 => ?_⟩
  obtain ⟨w2, y, S2, l2, hr2, r2, q2⟩ := h2
  exact bin_snd o hr2 (r1.mono l2) r2 q2
theorem c_cmp (G : Gd C ct k X) {o : CO} {p : CmpOp} {a b : E} {l r : Expr} (h : coB o p = true) (hm : behindInMarks p r = false) (ha : PE X l (tE X.K C a)) (hb : PE X r (tE X.K C b)) : PE X (.Compare l [p] [r] pos) (tE X.K C (.cmp o a b)) := by
  have e : coOp o = p := of_decide_eq_true h
  subst e
  have hu := G.hu
  refine PE.weak (pe_cmpR (op_any _) ha hb hm) fun σ H Q q => ?_
  obtain ⟨w, env, S, hr, he, q⟩ := q
  simp only [evE] at q
  refine ⟨w, env, S, hr, he, (q.step (rel := RepW X.K)).imp fun v H1 h1 => ?_⟩
  obtain ⟨w1, x, S1, l1, hr1, r1, q1⟩ := h1
  refine ⟨w1, env, S1, hr1, he.mono l1, (q1.step (rel := RepW X.K)).imp fun u H2 h2 => ?_⟩
  obtain ⟨w2, y, S2, l2, hr2, r2, q2⟩ := h2
  exact cmp_snd o (by omega) hr2 (r1.mono l2) r2 q2
theorem c_chn (G : Gd C ct k X) {o o' : CO} {p p' : CmpOp} {a b c : E} {l m r : Expr} (h : coB o p = true) (h' : coB o' p' = true) (hm : lastMarks [p, p'] [m, r] = false) (ha : PE X l (tE X.K C a)) (hb : PE X m (tE X.K C b)) (hc : PE X r (tE X.K C c)) :
    PE X (.Compare l [p, p'] [m, r] pos) (tE X.K C (.chn o o' a b c)) := by
  have e : coOp o = p := of_decide_eq_true h
  have e' : coOp o' = p' := of_decide_eq_true h'
  subst e e'
  have hu := G.hu
  refine PE.weak (pe_chain (op_any _) (op_any _) ha hb hc hm) fun σ H Q q => ?_
  obtain ⟨w, env, S, hr, he, q⟩ := q
  simp only [evE] at q
  refine ⟨w, env, S, hr, he, (q.step (rel := RepW X.K)).imp fun v H1 h1 => ?_⟩
  obtain ⟨w1, x, S1, l1, hr1, r1, q1⟩ := h1
  refine ⟨w1, env, S1, hr1, he.mono l1, (q1.step (rel := RepW X.K)).imp fun u H2 h2 => ?_⟩
  obtain ⟨w2, y, S2, l2, hr2, r2, q2⟩ := h2
  refine cmp_snd o (by omega) hr2 (r1.mono l2) r2 ((q2.step (rel := RepW X.K)).imp fun z H3 h3 => ?_)
  obtain ⟨w3, zw, S3, l3, hr3, r3, q3⟩ := h3
  simp only at q3
  split at q3
  · have r3' : RepP X.K w3.F (.bl true) z := r3
    unfold RepP at r3'
    subst r3'
    refine ⟨true, rfl, ?_⟩
    rw [if_pos rfl]
    refine ⟨w3, env, S3, hr3, he.mono ((l1.trans l2).trans l3), (q3.step (rel := RepW X.K)).imp fun t H4 h4 => ?_⟩
    obtain ⟨w4, tw, S4, l4, hr4, r4, q4⟩ := h4
    exact cmp_snd o' (by omega) hr4 (r2.mono (l3.trans l4)) r4 q4
  · have r3' : RepP X.K w3.F (.bl false) z := r3
    unfold RepP at r3'
    subst r3'
    refine ⟨false, rfl, ?_⟩
    rw [if_neg Bool.false_ne_true]
    exact q3 w3 _ _ (LeW.refl _) hr3 (show RepP X.K w3.F (.bl false) _ from P_bl)
  · exact q3.elim
/-- truth by values -/
theorem tru_rep {w : Wd} {H : Hp} {S : Cells} {p : P} {v : V} {b : Bool} (r : RepT X.K w.F H p v) (e : truth p = some b) : TruV X.K v H b := by
  cases p with
  | non => cases T_non r; cases e; rfl
  | bl c => cases T_bl r; cases e; rfl
  | int c => cases T_int r; cases e; rfl
  | str c =>
    cases T_str r
    unfold truth at e
    simp only at e
    split at e
    · rename_i hl
      cases e
      exact ⟨Nat.le_trans hl lim_le, rfl⟩
    · cases e
  | lst xs =>
    obtain ⟨a, vs, rfl, ho, rs, z⟩ := r
    cases e
    refine .inl ⟨vs, SqL.of ho, ?_⟩
    have := rs.len
    cases xs <;> cases vs <;> simp_all
  | tup xs =>
    obtain ⟨a, vs, rfl, ho, rs, z⟩ := r
    cases e
    refine .inr (.inl ⟨vs, ho, ?_⟩)
    have := rs.len
    cases xs <;> cases vs <;> simp_all
  | dct _ => cases e
  | obj _ _ => cases e
  | scr _ => cases e
/-- .. as a test of the value -/
theorem tE_tru {a : E} {σ : L2.St} {H : Hp} {Q : Bool → Hp → Prop} (h : tTm X.K C a σ H Q) : tE X.K C a σ H fun x H' => ∃ k, TruV X.K x H' k ∧ Q k H' := by
  obtain ⟨w, env, S, hr, he, q⟩ := h
  unfold testOf at q
  refine ⟨w, env, S, hr, he, (q.step (rel := RepW X.K)).imp fun v H1 h1 => ?_⟩
  obtain ⟨w1, x, S1, l1, hr1, r1, q1⟩ := h1
  simp only at q1
  split at q1
  · rename_i p hp
    split at q1
    · rename_i b hb
      exact ⟨b, tru_rep (S := S1) (hr1.view hp r1) hb, q1 w1 b H1 (LeW.refl _) hr1 rfl⟩
    · exact q1.elim
  · exact q1.elim
theorem pt_plain {a : E} {x : Expr} (hp : plainTest x = true) (ha : PE X x (tE X.K C a)) : PT X x (tTm X.K C a) :=
  PT.weak (pt_truth ha (isTrue_pl hp)) fun σ H Q q => tE_tru q
theorem andOp_tru {w : Wd} {H : Hp} {S : Cells} {x : W} {v : V} {kk : Cells → R (W × Cells)} {o : Bool} {Q : VK} (hr : HRel X.K S w H) (r : RepW X.K w x v) (q : RdG X.K (RepW X.K) w (andOp (x, S) kk o) Q) :
    ∃ b, TruV X.K v H b ∧ (b = o → RdG X.K (RepW X.K) w (kk S) Q) ∧ (b ≠ o → Q v H) := by
  unfold andOp at q
  simp only at q
  split at q
  · rename_i p hp
    split at q
    · rename_i b hb
      refine ⟨b, tru_rep (S := S) (hr.view hp r) hb, fun e => ?_, fun e => ?_⟩
      · rw [if_pos e] at q
        exact q
      · rw [if_neg e] at q
        exact q w v H (LeW.refl _) hr r
    · exact q.elim
  · exact q.elim
theorem c_and {a b : E} {x y : Expr} {rest : List Expr} (ha : PE X x (tE X.K C a)) (hb : PE X (.BoolOp .And (y :: rest) pos) (tE X.K C b)) : PE X (.BoolOp .And (x :: y :: rest) pos) (tE X.K C (.and a b)) := by
  refine PE.weak (pe_andT ha hb) fun σ H Q q => ?_
  obtain ⟨w, env, S, hr, he, q⟩ := q
  simp only [evE] at q
  refine ⟨w, env, S, hr, he, (q.step (rel := RepW X.K)).imp fun v H1 h1 => ?_⟩
  obtain ⟨w1, x1, S1, l1, hr1, r1, q1⟩ := h1
  obtain ⟨bb, t, y1, y2⟩ := andOp_tru hr1 r1 q1
  refine ⟨bb, t, ?_⟩
  split
  · rename_i e
    exact ⟨w1, env, S1, hr1, he.mono l1, y1 e⟩
  · rename_i e
    exact y2 e
theorem c_or {a b : E} {x y : Expr} {rest : List Expr} (ha : PE X x (tE X.K C a)) (hb : PE X (.BoolOp .Or (y :: rest) pos) (tE X.K C b)) : PE X (.BoolOp .Or (x :: y :: rest) pos) (tE X.K C (.or a b)) := by
  refine PE.weak (pe_orT ha hb) fun σ H Q q => ?_
  obtain ⟨w, env, S, hr, he, q⟩ := q
  simp only [evE] at q
  refine ⟨w, env, S, hr, he, (q.step (rel := RepW X.K)).imp fun v H1 h1 => ?_⟩
  obtain ⟨w1, x1, S1, l1, hr1, r1, q1⟩ := h1
  obtain ⟨bb, t, y1, y2⟩ := andOp_tru hr1 r1 q1
  refine ⟨bb, t, ?_⟩
  split
  · rename_i e
    exact y2 (by rw [e]; decide)
  · rename_i e
    exact ⟨w1, env, S1, hr1, he.mono l1, y1 (by cases bb <;> first | rfl | exact absurd rfl e)⟩
theorem c_not {a : E} {x : Expr} (ha : PE X x (tE X.K C a)) : PE X (.UnaryOp .Not x pos) (tE X.K C (.not a)) := by
  refine PE.weak (pe_notT ha) fun σ H Q q => ?_
  obtain ⟨w, env, S, hr, he, q⟩ := q
  simp only [evE] at q
  have h2 : tTm X.K C a σ H fun c H1 => Q (.bl (!c)) H1 := ⟨w, env, S, hr, he, (q.step (rel := relB)).imp fun b H1 h1 => by
    obtain ⟨w1, x1, S1, l1, hr1, r1, q1⟩ := h1
    cases r1
    exact q1 w1 _ _ (LeW.refl _) hr1 (show RepP X.K w1.F (.bl (!b)) _ from P_bl)⟩
  exact tE_tru h2
/-! ### tests -/
theorem t_and {a b : E} {x y : Expr} {rest : List Expr} (ha : PT X x (tTm X.K C a)) (hb : PW X (.BoolOp .And (y :: rest) pos) (tTm X.K C b)) : PW X (.BoolOp .And (x :: y :: rest) pos) (tTm X.K C (.and a b)) := by
  refine ⟨fun wh pins s σ H Q I q => (pw_and ha hb).run wh pins s σ H Q I ?_⟩
  obtain ⟨w, env, S, hr, he, q⟩ := q
  refine ⟨w, env, S, hr, he, ?_⟩
  simp only [evE] at q
  unfold testOf at q ⊢
  cases hE : evE C a env S with
  | no => rw [hE] at q; exact q.elim
  | ex _ _ _ => rw [hE] at q; exact q.elim
  | ok q0 =>
    rw [hE] at q
    obtain ⟨x0, S0⟩ := q0
    have q' : RdG X.K relB w ((andOp (x0, S0) (fun S => evE C b env S) true).bind fun q => match q.1.view q.2 with
      | some p => match truth p with
        | some b => .ok (b, q.2)
        | none => .no
      | none => .no) Q := q
    unfold andOp at q'
    simp only at q'
    show RdG X.K relB w (match W.view S0 x0 with
      | some p => match truth p with
        | some b => .ok (b, S0)
        | none => .no
      | none => .no) _
    cases hv : W.view S0 x0 with
    | none => rw [hv] at q'; exact q'.elim
    | some p =>
      rw [hv] at q'
      simp only at q' ⊢
      cases ht : truth p with
      | none => rw [ht] at q'; exact q'.elim
      | some bb =>
        rw [ht] at q'
        simp only at q' ⊢
        intro w1 c H1 l1 hr1 r1
        have r1' : bb = c := r1
        subst r1'
        cases bb with
        | true =>
          rw [if_pos rfl] at q'
          rw [if_pos rfl]
          exact ⟨w1, env, S0, hr1, he.mono l1, q'.up l1⟩
        | false =>
          rw [if_neg (by decide)] at q'
          rw [if_neg (by decide)]
          have q2 : RdG X.K relB w (match W.view S0 x0 with
            | some p => match truth p with
              | some b => .ok (b, S0)
              | none => .no
            | none => .no) Q := q'
          rw [hv] at q2
          simp only at q2
          rw [ht] at q2
          exact q2 w1 false H1 l1 hr1 rfl
theorem t_or {a b : E} {x y : Expr} {rest : List Expr} (ha : PT X x (tTm X.K C a)) (hb : PW X (.BoolOp .Or (y :: rest) pos) (tTm X.K C b)) : PW X (.BoolOp .Or (x :: y :: rest) pos) (tTm X.K C (.or a b)) := by
  refine ⟨fun wh pins s σ H Q I q => (pw_or ha hb).run wh pins s σ H Q I ?_⟩
  obtain ⟨w, env, S, hr, he, q⟩ := q
  refine ⟨w, env, S, hr, he, ?_⟩
  simp only [evE] at q
  unfold testOf at q ⊢
  cases hE : evE C a env S with
  | no => rw [hE] at q; exact q.elim
  | ex _ _ _ => rw [hE] at q; exact q.elim
  | ok q0 =>
    rw [hE] at q
    obtain ⟨x0, S0⟩ := q0
    have q' : RdG X.K relB w ((andOp (x0, S0) (fun S => evE C b env S) false).bind fun q => match q.1.view q.2 with
      | some p => match truth p with
        | some b => .ok (b, q.2)
        | none => .no
      | none => .no) Q := q
    unfold andOp at q'
    simp only at q'
    show RdG X.K relB w (match W.view S0 x0 with
      | some p => match truth p with
        | some b => .ok (b, S0)
        | none => .no
      | none => .no) _
    cases hv : W.view S0 x0 with
    | none => rw [hv] at q'; exact q'.elim
    | some p =>
      rw [hv] at q'
      simp only at q' ⊢
      cases ht : truth p with
      | none => rw [ht] at q'; exact q'.elim
      | some bb =>
        rw [ht] at q'
        simp only at q' ⊢
        intro w1 c H1 l1 hr1 r1
        have r1' : bb = c := r1
        subst r1'
        cases bb with
        | false =>
          rw [if_pos rfl] at q'
          rw [if_neg (by decide)]
          exact ⟨w1, env, S0, hr1, he.mono l1, q'.up l1⟩
        | true =>
          rw [if_neg (by decide)] at q'
          rw [if_pos rfl]
          have q2 : RdG X.K relB w (match W.view S0 x0 with
            | some p => match truth p with
              | some b => .ok (b, S0)
              | none => .no
            | none => .no) Q := q'
          rw [hv] at q2
          simp only at q2
          rw [ht] at q2
          exact q2 w1 true H1 l1 hr1 rfl
theorem t_not {a : E} {x : Expr} (ha : PT X x (tTm X.K C a)) : PT X (.UnaryOp .Not x pos) (tTm X.K C (.not a)) := by
  refine PT.weak (pt_not ha) fun σ H Q q => ?_
  obtain ⟨w, env, S, hr, he, q⟩ := q
  refine ⟨w, env, S, hr, he, ?_⟩
  simp only [evE] at q
  cases hE : testOf (evE C a env S) with
  | no => rw [hE] at q; exact q.elim
  | ex _ _ _ => rw [hE] at q; exact q.elim
  | ok q0 =>
    rw [hE] at q
    intro w1 c H1 l1 hr1 r1
    have r1' : q0.1 = c := r1
    subst r1'
    exact q w1 (!q0.1) H1 l1 hr1 rfl
/-- a comparison as a test: its value is a bool -/
theorem t_val {t : TE} {a : E} {x : Expr} (hp : PT X x (tB t)) (k : ∀ σ H Q, tE X.K C a σ H Q → t σ H Q) (hb : ∀ env S q, evE C a env S = .ok q → ∃ b, q.1 = .v (.bl b)) : PT X x (tTm X.K C a) := by
  refine PT.weak hp fun σ H Q q => k σ H _ ?_
  obtain ⟨w, env, S, hr, he, q⟩ := q
  refine ⟨w, env, S, hr, he, ?_⟩
  unfold testOf at q
  cases hE : evE C a env S with
  | no => rw [hE] at q; exact q.elim
  | ex _ _ _ => rw [hE] at q; exact q.elim
  | ok q0 =>
    rw [hE] at q
    obtain ⟨b, e⟩ := hb env S q0 hE
    obtain ⟨x0, S0⟩ := q0
    cases e
    intro w1 v H1 l1 hr1 r1
    have r1' : RepP X.K w1.F (.bl b) v := r1
    unfold RepP at r1'
    exact ⟨b, r1', q w1 b H1 l1 hr1 rfl⟩
end
end LS

set_option Elab.async false
set_option linter.all false
set_option maxRecDepth 100000
/-! LSa: set(xs) of a list of texts: how many there are. -/
namespace LS
open PySem PySem.Spec PyProof.Rows L2
theorem onceS_snoc (xs : List Str) (x : Str) : onceS (xs ++ [x]) = if x ∈ onceS xs then onceS xs else onceS xs ++ [x] := by
  unfold onceS
  rw [List.foldl_append]
  rfl
theorem onceS_len : ∀ (xs : List Str), (onceS xs).length ≤ xs.length := by
  have key : ∀ (xs acc : List Str), (xs.foldl (fun acc x => if x ∈ acc then acc else acc ++ [x]) acc).length ≤ acc.length + xs.length := by
    intro xs
    induction xs with
    | nil => exact fun acc => Nat.le_refl _
    | cons x xs ih =>
      intro acc
      rw [List.foldl_cons]
      refine Nat.le_trans (ih _) ?_
      split
      · rw [List.length_cons]; omega
      · rw [List.length_append, List.length_cons, List.length_cons, List.length_nil]; omega
  intro xs
  have := key xs []
  rw [List.length_nil, Nat.zero_add] at this
  exact this
abbrev hasT (xs : List Str) (k : Str) : Bool := (onceS xs).any (· == k)
abbrev setO (led : Bool) : Obj := { cls := .type "set", dict := none, data := .set #[] 0 (.fresh 0 0 led) }
theorem hasT_snoc (xs : List Str) (x k : Str) : (hasT xs k || decide (k = x)) = hasT (xs ++ [x]) k := by
  unfold hasT
  rw [onceS_snoc]
  by_cases h : x ∈ onceS xs
  · rw [if_pos h]
    by_cases e : k = x
    · subst e
      simp [h]
    · simp [e]
  · rw [if_neg h, List.any_append]
    by_cases e : k = x
    · subst e
      simp
    · have hb : (x == k) = false := by simpa [beq_iff_eq] using fun z : x = k => e z.symm
      simp [hb, e]
theorem lenT_snoc (xs : List Str) (x : Str) : (if hasT xs x = true then (onceS xs).length else (onceS xs).length + 1) = (onceS (xs ++ [x])).length := by
  rw [onceS_snoc]
  by_cases h : x ∈ onceS xs
  · rw [if_pos h, if_pos (by simpa [hasT] using h)]
  · rw [if_neg h, if_neg (by simpa [hasT] using h), List.length_append]
    rfl
theorem take_snoc {xs : List Str} {i : Nat} (h : i < xs.length) : xs.take (i + 1) = xs.take i ++ [xs.getD i Str.empty] := by
  rw [List.take_add_one, List.getD_eq_getElem?_getD, List.getElem?_eq_getElem h]
  rfl
section
variable {prog : Program} {w : World} {A : Around} {R : Result → Shared → Prop} {I : Addr} {fp wr : List Addr} {G : Array GenState → Array GenState → Prop} {n : Nat} {P : Nat → Value → Prop} {St : Nat → Shared → Prop}
theorem upd_texts (W : WalksS prog w A.in1 I fp wr G n P St) (D : Addr) (off : D ∉ fp) (xs : List Str) (len : xs.length = n) (small : n + 1 < scanBound) (vals : ∀ i v, P i v → ∃ t, v = .str (xs.getD i Str.empty) t) :
    ∀ (left i : Nat) (s : Shared), n - i = left → i ≤ n → St i s → s.heap.SetOf (PySem.strKind prog w) D (hasT (xs.take i)) (onceS (xs.take i)).length →
      (∀ s', Moved (D :: wr) G s s' → s'.heap.SetOf (PySem.strKind prog w) D (hasT xs) (onceS xs).length → R (.ok (.ret .none)) s') →
      codeAny (model prog w) A (.builtin "set.update.loop" ⟨[.ref D, .ref I], []⟩) R s := by
  have offw : D ∉ wr := fun z => off (W.sub _ z)
  have more : ∀ b ∈ wr, b ∈ D :: wr := fun b z => List.mem_cons_of_mem _ z
  have stays : ∀ {s s' : Shared} {T : Str → Bool} {m : Nat}, Moved wr G s s' → s.heap.SetOf (PySem.strKind prog w) D T m → s'.heap.SetOf (PySem.strKind prog w) D T m := fun mv z => by
    obtain ⟨o, es, ep, t, ho, rest⟩ := z
    exact ⟨o, es, ep, t, mv.heap D _ offw ho, rest⟩
  intro left
  induction left with
  | zero =>
    intro i s hk hi hst hS hR
    have e : i = n := by omega
    subst e
    have et : xs.take i = xs := List.take_of_length_le (by omega)
    rw [et] at hS
    refine codeAny_builtin PyProof.Rows.F.entry_set_update_loop (by
      rw [Around.under_plainId PyProof.Rows.F.plain_set_update_loop _]
      refine wpAny_bind (m := pyNext (.ref I)) (W.done s _ _ hst fun s' mv => ?_)
      exact wpAny_pure (hR s' (mv.mono more) (stays mv hS)))
  | succ left ih =>
    intro i s hk hi hst hS hR
    have lt : i < n := by omega
    refine codeAny_builtin PyProof.Rows.F.entry_set_update_loop (by
      rw [Around.under_plainId PyProof.Rows.F.plain_set_update_loop _]
      refine wpAny_bind (m := pyNext (.ref I)) (W.item i s _ _ lt hst fun v s' hP hst' mv => ?_)
      obtain ⟨t, rfl⟩ := vals i v hP
      refine wpAny_bind (m := holding [Value.str (xs.getD i Str.empty) t] (setAdd D (.str (xs.getD i Str.empty) t))) (wpAny_holding ?_)
      unfold setAdd
      refine wpAny_holding (wpAny_bind ((PySem.strKind prog w).pyHash (k := xs.getD i Str.empty) (strKind_is _ _ _ _) ?_))
      have room : (onceS (xs.take i)).length + 1 < scanBound := by
        have h1 := onceS_len (xs.take i)
        rw [List.length_take] at h1
        omega
      have hS' := stays mv hS
      refine wpAny_setAddHashed_of (knd := PySem.strKind prog w) (s := { s' with toks := s'.toks + 1 }) (strKind_is _ _ _ _) rfl hS' room fun h' sb hS2 => ?_
      have hSi : h'.SetOf (PySem.strKind prog w) D (hasT (xs.take (i + 1))) (onceS (xs.take (i + 1))).length := by
        rw [take_snoc (by omega)]
        exact SetOf_congr hS2 (hasT_snoc _ _) (lenT_snoc _ _)
      refine wpAny_pure ⟨plainId_quiet PyProof.Rows.F.plain_set_update_loop _, ih (i + 1) _ (by omega) lt (W.frame _ s' _ _ hst' (Nat.le_succ _) fun b hb o e => by
        rw [sb.2 b fun z : b = D => off (z ▸ hb)]
        exact e) hSi fun s'' mv2 hS3 => ?_⟩
      refine hR s'' (Moved.trans W.gtrans ((mv.mono more).then_heap (Nat.le_succ _) fun b o hb e => ?_) mv2) hS3
      rw [sb.2 b fun z : b = D => hb (z ▸ List.mem_cons_self)]
      exact e)
end
section
variable {prog : Program} {w : World} {A : Around} {E : Value → Shared → Prop} {s : Shared}
set_option maxHeartbeats 3200000 in
theorem set_texts {l : Addr} {its : Array Value} {xs : List Str} {Q : Value → Shared → Prop} (calm : A.handled = none) (hl : s.heap.IsList l its) (hi : PyProof.Rows.StrsAre its.toList xs) (small : its.size + 1 < scanBound)
    (h : ∀ (h' : Heap) (tk : Nat), h'.SetOf (PySem.strKind prog w) s.heap.objs.size (hasT xs) (onceS xs).length → (∀ b o, b < s.heap.objs.size → s.heap.get? b = some o → h'.get? b = some o) → Q (.ref s.heap.objs.size) { s with heap := h', toks := tk }) :
    wpAny (model prog w) A (call (.type "set") [.ref l]) Q E s := by
  have lenx : xs.length = its.size := by
    have := hi.length
    simpa using this.symm
  obtain ⟨c, tl, mro_⟩ := PySem.F.called_set.mro
  have made_ := PySem.F.called_set.made
  have sub_ := PySem.F.called_set.sub
  refine wpAny_call (codeAny_of_tree (show wpAny _ _ (callAny (.type "set") _) _ _ _ from wpAny_pure ⟨Code.quiet_builtin _ (by decide +kernel), codeAny_builtin PySem.F.entry_type_call ?_⟩))
  rw [Around.under_plain (weight_type_call_type "set" [.ref l] []) rfl]
  have nt_ := PySem.F.called_set.notType
  have cc_ := PySem.F.called_set.canCreate
  have tc_ := PySem.F.typeCall_set_1 (.ref l)
  repeat (any_goals (first | assumption | wp_step))
  refine codeAny_mono (code_set_new_1 (.ref l) (E := E) (Q₁ := fun ob s₁ => ∃ led : Bool, ob = .ref s.heap.objs.size ∧ s₁ = { s with heap := s.heap.push (setO led) }) fun led => ⟨led, rfl, rfl⟩) fun r s₁ hr => ?_
  cases r with
  | error e => exact hr
  | ok fl =>
    cases fl with
    | ret ob =>
      obtain ⟨led, rfl, rfl⟩ := hr
      have hD : (s.heap.push (setO led)).get? s.heap.objs.size = some (setO led) := Heap.get?_push_size _ rfl
      have hT : Shared.TypeIs { s with heap := s.heap.push (setO led) } (.ref s.heap.objs.size) "set" := ⟨_, hD, rfl⟩
      have li_ := PySem.F.called_set.init.lookup
      have bi_ := PySem.F.called_set.init.bind (.ref s.heap.objs.size)
      repeat (any_goals (first | assumption | wp_step))
      refine codeAny_mono (codeAny_call_builtin (R := wants (fun r s₂ => r = .none ∧ ∃ h' tk, s₂ = { s with heap := h', toks := tk } ∧ h'.SetOf (PySem.strKind prog w) s.heap.objs.size (hasT xs) (onceS xs).length ∧
          (∀ b o, b < s.heap.objs.size → s.heap.get? b = some o → h'.get? b = some o)) E) PySem.F.called_set.init.plain PySem.F.entry_set_init (check_set_init_1 hT ?_)) fun r₂ s₂ hr₂ => ?_
      · obtain ⟨ol, hol, hcl, nl, hdl⟩ := hl
        obtain ⟨ocls, odict, odata, oslots⟩ := ol
        simp only at hcl hdl
        subst hcl; subst hdl
        have hol' : (s.heap.push (setO led)).get? l = some { cls := .type "list", dict := odict, data := .seq its nl, slots := oslots } := Heap.get?_push_of_some _ hol
        have sl1 := PySem.F.sub_list_set
        have sl2 := PySem.F.sub_list_frozenset
        have ne_ : (Value.type "list" == Value.type "dict") = false := by decide
        have hl1 : (s.heap.push (setO led)).IsList l its := ⟨_, hol', rfl, nl, rfl⟩
        unfold Builtin.«set.__init__» noKeywords Builtin.Frozenset.updateFrom
        generalize hPI : pyIter = PI
        wp_walk
        subst hPI
        refine wpAny_pyIter_list hl1 (wpAny_bind (wpAny_runValue ?_))
        have hlD : l < s.heap.objs.size := Heap.lt_size hol
        have calm3 : A.in1.in1.in1.handled = none := by simp [calm]
        have neI : l ≠ (s.heap.push (setO led)).objs.size := by
          rw [Heap.size_push]
          exact Nat.ne_of_lt (Nat.lt_succ_of_lt hlD)
        have off : s.heap.objs.size ∉ [(s.heap.push (setO led)).objs.size, l] := by
          rw [Heap.size_push]
          simp only [List.mem_cons, List.mem_singleton, List.not_mem_nil, or_false, not_or]
          exact ⟨Nat.ne_of_lt (Nat.lt_succ_self _), Nat.ne_of_gt hlD⟩
        have vals : ∀ (i : Nat) (v : Value), its[i]? = some v → ∃ t, v = .str (xs.getD i Str.empty) t := fun i v hv => SS.strs_at hi i v (by rw [Array.getElem?_toList]; exact hv)
        refine upd_texts ((Walks.list calm3 _ l neI its).toS) s.heap.objs.size off xs lenx small vals (its.size - 0) 0 _ (by omega) (Nat.zero_le _) ⟨⟨_, Heap.get?_push_size _ rfl, rfl, rfl⟩, (hl1.push _)⟩ ?sa0 ?sb0
        case sa0 =>
          have g0 := Heap.get?_push_of_some (h := s.heap.push (setO led)) { cls := .type "list_iterator", data := .fields #[.ref l, .int 0 0] } hD
          exact SetOf_congr ((PyProof.Rows.setObjOf_fresh (knd := PySem.strKind prog w) led).setOf g0 (by unfold scanBound; omega)) (fun _ => rfl) rfl
        case sb0 =>
          intro s' mv hS'
          obtain ⟨h', g', d', tk', os'⟩ := s'
          have e1 : g' = s.gens := mv.gens
          have e2 : d' = s.drawn := mv.drawn
          have e3 : os' = s.os := mv.os
          subst e1 e2 e3
          refine wpAny_pure (show wpAny _ _ (ret Value.none) _ _ _ from wpAny_pure ⟨rfl, h', tk', rfl, hS', fun b o hb e => ?_⟩)
          have b1 : b ≠ s.heap.objs.size := Nat.ne_of_lt hb
          have b2 : b ≠ (s.heap.push (setO led)).objs.size := by
            rw [Heap.size_push]
            exact Nat.ne_of_lt (Nat.lt_succ_of_lt hb)
          exact mv.heap b o (by simp only [List.mem_cons, List.mem_singleton, List.not_mem_nil, or_false, not_or]; exact ⟨b1, b2⟩) (Heap.get?_push_of_some _ (Heap.get?_push_of_some _ e))
      · cases r₂ with
        | error e => exact hr₂
        | ok fl₂ =>
          cases fl₂ with
          | ret r =>
            obtain ⟨rfl, h', tk, rfl, hS', hk'⟩ := hr₂
            repeat (any_goals (first | assumption | wp_step))
            exact h _ _ hS' hk'
          | _ => exact hr₂.elim
    | _ => exact hr.elim
end
/-- len(set(xs)), xs a list of texts -/
def tLenT (K : PySem.W.Frag) (ta : TE) : TE := fun σ H Q => ta σ H fun x H1 => ∃ (l : Addr) (xs : List Str), x = .ref l ∧ SqL K H1 l (xs.map V.str) ∧ xs.length ≤ 4000 ∧ Q (.int ((onceS xs).length : Nat)) H1
theorem pe_lenT {X : Cx} {a : Expr} {ta : TE} {p p2 q pos : Pos} (hg : Gl X "len") (hm : X.mg "len" = none) (hg2 : Gl X "set") (hm2 : X.mg "set" = none) (ha : PE X a ta) (hc : X.calm = true) (na : starEach [a] X.env = (false, eval a X.env) :: starEach [] X.env) :
    PE X (.Call (.Name "len" p) [.Call (.Name "set" p2) [a] [] q] [] pos) (tLenT X.K ta) := by
  refine ⟨fun pins s σ H Q I h => Call_ (ld_blt I hg hm boot_len (PyProof.Rows.callWith_builtin1 (PyProof.Rows.args_cons (Call_ (ld_blt I hg2 hm2 boot_set ?_)) rfl) rfl rfl))⟩
  refine PyProof.Rows.callWith_type1 (PyProof.Rows.args_cons (thn (ha.run pins s σ H _ I h) fun v s1 ⟨x, H1, I1, r1, l, xs, ex, hq, hl, q1⟩ => PyProof.Rows.args_nil ?_) na) na rfl
  subst ex
  cases r1
  obtain ⟨its, r, pl, hz⟩ := I1.list hq
  have hlen : its.toArray.size = xs.length := by rw [List.size_toArray, ← r.length, List.length_map]
  refine set_texts (I1.ok.hd hc) pl.isList (by simpa using strsAre_of r) (by rw [hlen]; unfold scanBound; omega) fun h' tk hS hk => PyProof.Rows.args_nil ?_
  obtain ⟨o, es, ep, t, ho, hex, hd, _, _, _, hf, hn⟩ := hS
  have I2 : Inv X pins σ H1 { s1 with heap := h', toks := tk } := I1.kept fun b o e => hk b o (Heap.lt_size e) e
  have hle := onceS_len xs
  exact call_len_set ho hex hd hf (by rw [hn] <;> omega) ⟨.int (onceS xs).length, H1, I2.tok _, ⟨_, by rw [hn]⟩, q1⟩
end LS

set_option Elab.async false
set_option linter.all false
set_option maxRecDepth 100000
set_option maxHeartbeats 1000000
/-! LS9: displays, subscripts, fields, built-in calls, f-strings, calls. -/
namespace PySem.W
open PySem
theorem kdl_collect {prog : Program} {w : World} {A : Around} {E : Value → Shared → Prop} {s : Shared} {T : String} {r d : Addr} {n : Nat} {P : Nat → Value → Prop} {OK : Heap → Prop} {R : List Value → Shared → Prop} (K : KdlSrc prog w T r d n P OK) (hh : A.handled = none) (hok : OK s.heap) (hn : n ≤ sizeLine)
    (h : ∀ (h' : Heap) (tk : Nat) (acc : Array Value), (∀ b o, s.heap.get? b = some o → h'.get? b = some o) → ItemsOf P acc n → R acc.toList { s with heap := h', toks := tk }) :
    wpAny (model prog w) A (collect (.ref r)) R E s := by
  obtain ⟨hr, hd⟩ := K.there _ hok
  unfold collect
  refine wpAny_bind (wpAny_runValue (codeAny_builtin PyProof.Rows.entry_proto_collect' ?_))
  rw [Around.under_plainId PySem.F.plain_proto_collect _]
  show wpAny _ A.in1 (newList [] >>= fun l => again (.builtin "list.__iadd__" ⟨[l, .ref r], []⟩)) _ _ s
  refine wpAny_bind (wpAny_newObj_type ?_)
  refine wpAny_pure ⟨plainId_quiet PySem.F.plain_list_iadd _, codeAny_builtin PyProof.Rows.entry_list_iadd' ?_⟩
  rw [Around.under_plainId PySem.F.plain_list_iadd _]
  have hS₁ : (s.heap.push { cls := .type "list", data := .seq ([] : List Value).toArray }).get? s.heap.objs.size = some { cls := .type "list", data := .seq #[] } := Heap.get?_push_size _ rfl
  show wpAny _ A.in1 (Builtin.List.listExtendWith (.ref s.heap.objs.size) (.ref r) (.ref s.heap.objs.size)) _ _ _
  have key := kdl_extend (s := { s with heap := s.heap.push { cls := .type "list", data := .seq ([] : List Value).toArray } }) (A := A)
    (R := fun (q : Result) (s' : Shared) => ∃ (h' : Heap) (tk : Nat) (acc' : Array Value) (c' : Nat), q = .ok (.ret (.ref s.heap.objs.size)) ∧ s' = { s with heap := h', toks := tk } ∧
      (∀ b o, s.heap.get? b = some o → h'.get? b = some o) ∧ h'.get? s.heap.objs.size = some { cls := .type "list", dict := none, data := .seq acc' c', slots := #[] } ∧ ItemsOf P acc' n)
    K hh (K.keep _ _ hok fun b _ o e => Heap.get?_push_of_some _ e) s.heap.objs.size (Nat.ne_of_gt hr) (Nat.ne_of_gt hd) (.ref s.heap.objs.size) 0 hS₁
    (fun h' tk acc' c' hk hS' hacc => ⟨h', tk, acc', c', rfl, rfl, fun b o e => hk b o (Nat.ne_of_lt (Heap.lt_size e)) (Heap.get?_push_of_some _ e), hS', hacc⟩) hn
  refine wpAny_mono key (fun fin s' x => ?_) fun e s' x => ?_
  · cases fin with
    | done f =>
      obtain ⟨h', tk, acc', c', e, rfl, hk, hS', hacc⟩ := x
      cases e
      show wpAny _ A (load s.heap.objs.size >>= _) _ _ _
      refine wpAny_bind (wpAny_load hS' ?_)
      refine wpAny_pure ?_
      exact h h' tk acc' hk hacc
    | again c₁ =>
      refine ⟨x.1, codeAny_mono x.2 fun q s₂ y => ?_⟩
      obtain ⟨h', tk, acc', c', rfl, rfl, hk, hS', hacc⟩ := y
      show wpAny _ A (load s.heap.objs.size >>= _) _ _ _
      refine wpAny_bind (wpAny_load hS' ?_)
      refine wpAny_pure ?_
      exact h h' tk acc' hk hacc
  · obtain ⟨_, _, _, _, e', _⟩ := x
    cases e'
end PySem.W
namespace LS
open PySem PySem.Spec PyProof.Rows L2
section
variable {X : Cx} {C : Cn} {ct : Ct} {k : Nat} {pos : Pos}
/-! ### freezing -/
theorem frz_snd {K : PySem.W.Frag} {S S' : Cells} {w : Wd} {H : Hp} {x : W} {v : V} {p : P} (hr : HRel K S w H) (r : RepW K w x v) (e : freeze S x = .ok (p, S')) : ∃ w', LeW w w' ∧ HRel K S' w' H ∧ RepP K w'.F p v := by
  cases x with
  | v q =>
    cases e
    exact ⟨w, LeW.refl _, hr, r⟩
  | c n =>
    obtain ⟨a, ha, rfl⟩ := r
    unfold freeze at e
    simp only at e
    split at e
    · rename_i c hc
      split at e
      · rename_i p' hp
        cases e
        obtain ⟨w', h1, h2, h3, h4⟩ := hr.frozen hc hp ha
        exact ⟨w', h2, h1, h4⟩
      · cases e
    · cases e
theorem frzL_snd {K : PySem.W.Frag} : ∀ {xs : List W} {vs : List V} {ps : List P} {S S' : Cells} {w : Wd} {H : Hp}, HRel K S w H → RepWs K w xs vs → freezeL xs S = .ok (ps, S') → ∃ w', LeW w w' ∧ HRel K S' w' H ∧ RepPs K w'.F ps vs
  | [], _, ps, S, S', w, H, hr, .nil, e => by
    cases e
    refine ⟨w, LeW.refl _, hr, ?_⟩
    unfold RepPs
    rfl
  | x :: xs, _, ps, S, S', w, H, hr, .cons r t, e => by
    have e' : ((freeze S x).bind fun q => (freezeL xs q.2).bind fun q2 => .ok (q.1 :: q2.1, q2.2)) = .ok (ps, S') := e
    cases h1 : freeze S x with
    | no => rw [h1] at e'; cases e'
    | ex _ _ _ => rw [h1] at e'; cases e'
    | ok q1 =>
      rw [h1] at e'
      obtain ⟨p1, S1⟩ := q1
      have e2 : ((freezeL xs S1).bind fun q2 => .ok (p1 :: q2.1, q2.2)) = R.ok (ps, S') := e'
      obtain ⟨w1, l1, hr1, r1⟩ := frz_snd hr r h1
      cases h2 : freezeL xs S1 with
      | no => rw [h2] at e2; cases e2
      | ex _ _ _ => rw [h2] at e2; cases e2
      | ok q2 =>
        rw [h2] at e2
        obtain ⟨p2, S2⟩ := q2
        cases e2
        obtain ⟨w2, l2, hr2, r2⟩ := frzL_snd hr1 (RepWs.mono l1 t) h2
        refine ⟨w2, l1.trans l2, hr2, ?_⟩
        unfold RepPs
        exact ⟨_, _, rfl, RepP.mono l2.2 _ r1, r2⟩
theorem bind_ok {α β : Type} {m : R α} {f : α → R β} {b : β} (h : m.bind f = .ok b) : ∃ a, m = .ok a ∧ f a = .ok b := by
  cases m with
  | ok a => exact ⟨a, rfl, h⟩
  | ex _ _ _ => cases h
  | no => cases h
/-- a computation that changes no heap -/
theorem RdG.pure_ok {K : PySem.W.Frag} {α β : Type} {rel : Wd → α → β → Prop} {w : Wd} {m : R (α × Cells)} {Q : β → Hp → Prop} (h : RdG K rel w m Q) : ∃ q, m = .ok q := by
  cases m with
  | ok q => exact ⟨q, rfl⟩
  | ex _ _ _ => exact h.elim
  | no => exact h.elim
theorem c_tup {l : E} {es : List Expr} {j : Nat} (h : PA X es (tAm X.K C l)) : PE X (.Tuple es j pos) (tE X.K C (.tup l)) := by
  refine PE.weak (pe_tup h) fun σ H Q q => ?_
  obtain ⟨w, env, S, hr, he, q⟩ := q
  simp only [evE] at q
  refine ⟨w, env, S, hr, he, (q.step (rel := RepWs X.K)).imp fun vs H1 h1 => ?_⟩
  obtain ⟨w1, ws, S1, l1, hr1, r1, q1⟩ := h1
  simp only at q1
  split at q1
  · rename_i hl
    have hz : vs.length ≤ sizeLine := by
      rw [← Paired.length r1]
      exact Nat.le_trans hl lim_le
    refine ⟨hz, fun p hp => ?_⟩
    obtain ⟨q0, e0⟩ := q1.pure_ok
    obtain ⟨q2, e2, e3⟩ := bind_ok e0
    obtain ⟨ps, S2⟩ := q2
    rw [e0] at q1
    cases e3
    obtain ⟨w2, l2, hr2, r2⟩ := frzL_snd hr1 r1 e2
    obtain ⟨w3, l3, hr3, r3⟩ := new_tup hr2 hp r2 hz
    exact q1 w3 _ _ (l2.trans l3) hr3 r3
  · exact q1.elim
theorem c_lst {c : Bool} {l : E} {es : List Expr} (h : PA X es (tAm X.K C l)) : PE X (.List es pos) (tE X.K C (.lst c l)) := by
  refine PE.weak (pe_lst h) fun σ H Q q => ?_
  obtain ⟨w, env, S, hr, he, q⟩ := q
  cases c with
  | false =>
    simp only [evE] at q
    refine ⟨w, env, S, hr, he, (q.step (rel := RepWs X.K)).imp fun vs H1 h1 => ?_⟩
    obtain ⟨w1, ws, S1, l1, hr1, r1, q1⟩ := h1
    simp only at q1
    split at q1
    · rename_i hl
      have hz : vs.length ≤ sizeLine := by
        rw [← Paired.length r1]
        exact Nat.le_trans hl lim_le
      refine ⟨hz, fun p hp => ?_⟩
      obtain ⟨q0, e0⟩ := q1.pure_ok
      obtain ⟨q2, e2, e3⟩ := bind_ok e0
      obtain ⟨ps, S2⟩ := q2
      rw [e0] at q1
      cases e3
      obtain ⟨w2, l2, hr2, r2⟩ := frzL_snd hr1 r1 e2
      obtain ⟨w3, l3, hr3, r3⟩ := new_lst hr2 hp r2 hz
      exact q1 w3 _ _ (l2.trans l3) hr3 r3
    · exact q1.elim
  | true =>
    simp only [evE] at q
    refine ⟨w, env, S, hr, he, (q.step (rel := RepWs X.K)).imp fun vs H1 h1 => ?_⟩
    obtain ⟨w1, ws, S1, l1, hr1, r1, q1⟩ := h1
    simp only at q1
    split at q1
    · rename_i hl
      have hz : vs.length ≤ sizeLine := by
        rw [← Paired.length r1]
        exact Nat.le_trans hl lim_le
      refine ⟨hz, fun p hp => ?_⟩
      unfold alloc at q1
      split at q1
      · rename_i hb
        have lw : LeW w1 ⟨w1.ρ ++ [p], w1.F⟩ := ⟨List.prefix_append _ _, LeL.refl _⟩
        obtain ⟨hr2, _⟩ := hr1.newC (o := .lst vs) hp hb ⟨vs, upd_same, r1.mono lw, hz⟩
        exact q1 _ _ _ lw hr2 ⟨p, by rw [← hr1.len]; simp, rfl⟩
      · exact q1.elim
    · exact q1.elim
/-! ### argument lists -/
theorem a_nil : PA X [] (tAm X.K C .nil) := PA.weak pa_nil fun σ H Q q => by
  obtain ⟨w, env, S, hr, he, q⟩ := q
  simp only [evL] at q
  exact q w [] H (LeW.refl _) hr .nil
theorem a_cons {a l : E} {e : Expr} {es : List Expr} (hs : notStar e = true) (ha : PE X e (tE X.K C a)) (hl : PA X es (tAm X.K C l)) : PA X (e :: es) (tAm X.K C (.cons a l)) := by
  refine PA.weak (pa_cons ha hl (starEach_ns hs)) fun σ H Q q => ?_
  obtain ⟨w, env, S, hr, he, q⟩ := q
  simp only [evL] at q
  refine ⟨w, env, S, hr, he, (q.step (rel := RepW X.K)).imp fun v H1 h1 => ?_⟩
  obtain ⟨w1, x1, S1, l1, hr1, r1, q1⟩ := h1
  refine ⟨w1, env, S1, hr1, he.mono l1, (q1.step (rel := RepWs X.K)).imp fun vs H2 h2 => ?_⟩
  obtain ⟨w2, x2, S2, l2, hr2, r2, q2⟩ := h2
  exact q2 w2 _ _ (LeW.refl _) hr2 (.cons (r1.mono l2) r2)
theorem rep_map {K : PySem.W.Frag} {w : Wd} : ∀ {ps : List P} {vs : List V}, RepPs K w.F ps vs → RepWs K w (ps.map .v) vs
  | [], vs, r => by
    unfold RepPs at r
    subst r
    exact .nil
  | p :: ps, vs, r => by
    unfold RepPs at r
    obtain ⟨v, t, rfl, h1, h2⟩ := r
    exact .cons h1 (rep_map h2)
theorem app_rep {K : PySem.W.Frag} {w : Wd} : ∀ {xs ys : List W} {vs us : List V}, RepWs K w xs vs → RepWs K w ys us → RepWs K w (xs ++ ys) (vs ++ us)
  | _, _, _, _, .nil, s => s
  | _, _, _, _, .cons r t, s => .cons r (app_rep t s)
/-- *e, e a dict: its keys -/
theorem star_dict {pins : List (Addr × Obj)} {s : Shared} {σ : L2.St} {H : Hp} {a : Addr} {kvs : List (Key × V)} {Q : List Value → Shared → Prop} {E : Value → Shared → Prop} (hc : X.calm = true) (I : Inv X pins σ H s) (hd : Rd H a (.dK kvs))
    (q : ∀ us s', Inv X pins σ H s' → Vals (kvs.map fun z => kV z.1) us → Q us s') : PySem.W.StarOf (model X.prog X.w) X.A E (.ref a) Q s := by
  obtain ⟨z, lo, vs, rel, dd⟩ := dk_rd I.hok hd
  obtain ⟨ep, hat⟩ := dd.dictAt
  have ek : (kvs.map fun kv => kV kv.1) = vs.map fun p => kV p.1 := by
    have e := congrArg (List.map kV) rel.keys
    rw [List.map_map, List.map_map] at e
    exact e
  have fin : wpAny (model X.prog X.w) X.A (collect (.ref a)) Q E s := by
    refine PySem.W.kdl_collect (PySem.W.kdl_dict (knd := mixKind X.prog X.w) (kvs := vs) (ep := ep) lo) (I.ok.hd hc) hat (by rw [← rel.length]; exact z) fun h' tk acc hk hacc => ?_
    refine q _ _ (I.kept hk) ?_
    rw [ek]
    exact keys_at (by rw [Array.length_toList]; exact hacc.1) fun j v e => hacc.2 j v (by rw [← Array.getElem?_toList]; exact e)
  unfold PySem.W.StarOf notIterableAtAll
  exact wpAny_bind (wpAny_specialOf dd.typeIs PySem.F.slot_dict_iter.lookup (wpAny_pure ⟨rfl, fin⟩))
def tStarA (X : Cx) (te : TE) (t : TA) : TA := fun σ H Q => te σ H fun x H1 => ∃ p xs, x = V.ref p ∧ ((SqT X.K H1 p xs ∨ SqL X.K H1 p xs) ∨ ∃ kvs, Rd H1 p (.dK kvs) ∧ xs = kvs.map fun z => kV z.1) ∧ t σ H1 fun ys H2 => Q (xs ++ ys) H2
theorem starEach_st {e : Expr} {p : Pos} {es : List Expr} {env : PySem.Env} : starEach (.Starred e p :: es) env = (true, eval e env) :: starEach es env := rfl
theorem pa_starA (hc : X.calm = true) {e : Expr} {p : Pos} {es : List Expr} {te : TE} {t : TA} (he : PE X e te) (hr : PA X es t) : PA X (.Starred e p :: es) (tStarA X te t) := by
  refine ⟨fun pos pins s σ H Q I h => ?_⟩
  refine PySem.W.items_star (thn (he.run pins s σ H _ I h) fun v s1 ⟨y, H1, I1, ry, a, xs, ey, hx, q⟩ => ?_) starEach_st
  subst ey
  obtain rfl : v = Value.ref a := ry
  have fin : ∀ us s2, Inv X pins σ H1 s2 → Vals xs us → wpAny (model X.prog X.w) X.A (spliced (backTo pos (starEach es X.env))) (fun vs s₃ => AP X pins σ Q (us ++ vs) s₃) X.xe s2 := fun us s2 I2 rv =>
    thn (hr.run pos pins s2 σ H1 _ I2 q) fun ws s3 ⟨vs, H3, I3, r3, q3⟩ => ⟨xs ++ vs, H3, I3, rv.append r3, q3⟩
  rcases hx with hx | ⟨kvs, hx, rfl⟩
  · exact StX.star_any I1 hx fun us s2 I2 rv => fin us s2 I2 rv
  · exact star_dict hc I1 hx fun us s2 I2 rv => fin us s2 I2 rv
theorem rep_keys {K : PySem.W.Frag} {w : Wd} : ∀ {ps : List (Key × P)} {vs : List (Key × V)}, RepPk K w.F ps vs → RepWs K w (ps.map fun z => .v (kP z.1)) (vs.map fun z => kV z.1)
  | [], vs, r => by
    unfold RepPk at r
    subst r
    exact .nil
  | (key, p) :: ps, vs, r => by
    unfold RepPk at r
    obtain ⟨v, t, rfl, h1, h2⟩ := r
    refine .cons ?_ (rep_keys h2)
    cases key with
    | inl i => exact (show RepP K w.F (.int i) (.int i) from P_int)
    | inr i => exact (show RepP K w.F (.str i) (.str i) from P_str)
theorem a_star (hc : X.calm = true) {a l : E} {e : Expr} {p : Pos} {es : List Expr} (ha : PE X e (tE X.K C a)) (hl : PA X es (tAm X.K C l)) : PA X (.Starred e p :: es) (tAm X.K C (.star a l)) := by
  refine PA.weak (pa_starA hc ha hl) fun σ H Q q => ?_
  obtain ⟨w, env, S, hr, he, q⟩ := q
  simp only [evL] at q
  refine ⟨w, env, S, hr, he, (q.step (rel := RepW X.K)).imp fun v H1 h1 => ?_⟩
  obtain ⟨w1, x1, S1, l1, hr1, r1, q1⟩ := h1
  have tail : ∀ {xs : List W} {vs : List V}, RepWs X.K w1 xs vs → RdG X.K (RepWs X.K) w1 ((evL C l env S1).bind fun q2 => .ok (xs ++ q2.1, q2.2)) Q → tAm X.K C l σ H1 fun ys H2 => Q (vs ++ ys) H2 := fun {xs vs} rx q2 => by
    refine ⟨w1, env, S1, hr1, he.mono l1, (q2.step (rel := RepWs X.K)).imp fun us H2 h2 => ?_⟩
    obtain ⟨w2, x2, S2, l2, hr2, r2, q3⟩ := h2
    exact q3 w2 _ _ (LeW.refl _) hr2 (app_rep (RepWs.mono l2 rx) r2)
  simp only at q1
  split at q1
  · rename_i xs hx
    obtain ⟨ad, vs, rfl, ho, rs, z⟩ := hr1.view hx r1
    exact ⟨ad, vs, rfl, .inl (.inr (SqL.of ho)), tail (rep_map rs) q1⟩
  · rename_i xs hx
    obtain ⟨ad, vs, rfl, ho, rs, z⟩ := hr1.view hx r1
    exact ⟨ad, vs, rfl, .inl (.inl ho), tail (rep_map rs) q1⟩
  · rename_i kvs hx
    obtain ⟨ad, vs, o, rfl, ho, c, rs, z⟩ := hr1.view hx r1
    exact ⟨ad, _, rfl, .inr ⟨vs, rd_core ho c, rfl⟩, tail (rep_keys rs) q1⟩
  · exact q1.elim

/-! ### subscripts, fields -/
theorem plainIx_ns {e : Expr} (h : notSlice e = true) : PlainIx e := fun o i => by
  cases e <;> first
    | rfl
    | cases h
theorem c_sub (G : Gd C ct k X) {a i : E} {x y : Expr} (hs : notSlice y = true) (ha : PE X x (tE X.K C a)) (hb : PE X y (tE X.K C i)) : PE X (.Subscript x y pos) (tE X.K C (.sub a i)) := by
  have hu := G.hu
  refine PE.weak (pe_ix ix_any ha hb (plainIx_ns hs)) fun σ H Q q => ?_
  obtain ⟨w, env, S, hr, he, q⟩ := q
  simp only [evE] at q
  refine ⟨w, env, S, hr, he, (q.step (rel := RepW X.K)).imp fun v H1 h1 => ?_⟩
  obtain ⟨w1, x1, S1, l1, hr1, r1, q1⟩ := h1
  refine ⟨w1, env, S1, hr1, he.mono l1, (q1.step (rel := RepW X.K)).imp fun u H2 h2 => ?_⟩
  obtain ⟨w2, x2, S2, l2, hr2, r2, q2⟩ := h2
  exact sub_snd (by omega) hr2 (r1.mono l2) r2 q2
def tOm (K : PySem.W.Frag) (C : Cn) (e : E) : TO := fun σ H Q => ∃ w env S, HRel K S w H ∧ EnvRel K w env σ ∧ RdG K (fun _ a b => a = b) w (evO C e env S) Q
theorem o_none : PO X none (tOm X.K C .nil) := ⟨fun pins s σ H Q I q => po_none.run pins s σ H Q I (by
  obtain ⟨w, env, S, hr, he, q⟩ := q
  simp only [evO] at q
  exact q w none H (LeW.refl _) hr rfl)⟩
theorem o_some {a l : E} {e : Expr} (ha : PE X e (tE X.K C a)) : PO X (some e) (tOm X.K C (.cons a l)) := ⟨fun pins s σ H Q I q => (po_some ha).run pins s σ H Q I (by
  obtain ⟨w, env, S, hr, he, q⟩ := q
  simp only [evO] at q
  refine ⟨w, env, S, hr, he, (q.step (rel := RepW X.K)).imp fun v H1 h1 => ?_⟩
  obtain ⟨w1, x1, S1, l1, hr1, r1, q1⟩ := h1
  simp only at q1
  split at q1
  · rename_i i
    have r1' : RepP X.K w1.F (.int i) v := r1
    unfold RepP at r1'
    exact ⟨i, r1', q1 w1 (some i) H1 (LeW.refl _) hr1 rfl⟩
  · exact q1.elim)⟩
theorem c_slc {a lo hi : E} {x : Expr} {l u : Option Expr} {p2 : Pos} (ha : PE X x (tE X.K C a)) (hl : PO X l (tOm X.K C lo)) (hh : PO X u (tOm X.K C hi)) : PE X (.Subscript x (.Slice l u none p2) pos) (tE X.K C (.slc a lo hi)) := by
  refine PE.weak (pe_slice sl_any ha hl hh) fun σ H Q q => ?_
  obtain ⟨w, env, S, hr, he, q⟩ := q
  simp only [evE] at q
  refine ⟨w, env, S, hr, he, (q.step (rel := RepW X.K)).imp fun v H1 h1 => ?_⟩
  obtain ⟨w1, x1, S1, l1, hr1, r1, q1⟩ := h1
  refine ⟨w1, env, S1, hr1, he.mono l1, (q1.step (rel := fun _ a b => a = b)).imp fun o1 H2 h2 => ?_⟩
  obtain ⟨w2, x2, S2, l2, hr2, r2, q2⟩ := h2
  subst r2
  refine ⟨w2, env, S2, hr2, he.mono (l1.trans l2), (q2.step (rel := fun _ a b => a = b)).imp fun o2 H3 h3 => ?_⟩
  obtain ⟨w3, x3, S3, l3, hr3, r3, q3⟩ := h3
  subst r3
  exact slc_snd hr3 (r1.mono (l2.trans l3)) q3
theorem c_att (G : Gd C ct k X) {a : E} {f : Str} {x : Expr} (hs : notSuper x = true) (ha : PE X x (tE X.K C a)) : PE X (.Attribute x f pos) (tE X.K C (.att a f)) := by
  refine PE.weak (pe_fld ha (attrBase_ns hs)) fun σ H Q q => ?_
  obtain ⟨w, env, S, hr, he, q⟩ := q
  simp only [evE] at q
  refine ⟨w, env, S, hr, he, (q.step (rel := RepW X.K)).imp fun v H1 h1 => ?_⟩
  obtain ⟨w1, x1, S1, l1, hr1, r1, q1⟩ := h1
  simp only [attOp] at q1
  split at q1
  · rename_i c fs
    split at q1
    · rename_i p e1 e2
      obtain ⟨ad, dx, fs', rfl, ho, rs⟩ := RepP.top hr1.le (show RepP X.K w1.F (.obj c fs) v from r1)
      obtain ⟨u, e3, e4⟩ := rs.get e2
      obtain ⟨g1, g2⟩ := G.fld c f e1
      exact ⟨ad, _, dx, fs', u, rfl, ho, g1, g2, e3, RdG.val q1 hr1 e4⟩
    · exact q1.elim
  · rename_i n
    obtain ⟨ad, hn, rfl⟩ := r1
    split at q1
    · rename_i c fs hS
      split at q1
      · rename_i p e1 e2
        rcases hr1.cell n _ ad hS hn with z | ⟨_, q0⟩
        · cases z
        · obtain ⟨dx, fs', ho, rs⟩ := q0
          obtain ⟨g1, g2⟩ := G.fld c f e1
          have get : ∀ {fs : List (Str × W)} {fs' : List (Str × V)} {p : W}, RepWk X.K w1 fs fs' → fs.lookup f = some p → ∃ u, fs'.lookup f = some u ∧ RepW X.K w1 p u := by
            intro fs fs' p r
            induction r with
            | nil => intro e; simp at e
            | @cons a b as bs h t ih =>
              intro e
              obtain ⟨k0, x0⟩ := a
              obtain ⟨k1, v1⟩ := b
              obtain ⟨rfl, h2⟩ := h
              rw [List.lookup_cons] at e ⊢
              cases hk : (f == k0) with
              | true =>
                rw [hk] at e
                cases e
                exact ⟨v1, rfl, h2⟩
              | false =>
                rw [hk] at e
                exact ih e
          obtain ⟨u, e3, e4⟩ := get rs e2
          exact ⟨ad, _, dx, fs', u, rfl, ho, g1, g2, e3, q1 w1 _ _ (LeW.refl _) hr1 e4⟩
      · exact q1.elim
    · exact q1.elim
  · exact q1.elim

/-! ### calls -/
theorem c_call (G : Gd C ct k X) {f : Str} {l : E} {x : Str} {es : List Expr} {p : Pos} (hf : gB ct f x = true) (hs : es.all notStar = true) (ha : PA X es (tAm X.K C l)) (hl : es = [] → l = .nil) {e : E} (hev : ∀ env S, evE C e env S = (evL C l env S).bind fun q => if C.g.fn f = true then C.call f q.1 q.2 else .no) :
    PE X (.Call (.Name x p) es [] pos) (tE X.K C e) := by
  obtain ⟨rfl, hg, ho⟩ := gB_ok G hf
  by_cases hfn : C.g.fn f = true
  · obtain ⟨fa, m1, kp, F⟩ := G.def_ f hfn
    have cr : CallR X (.ref fa) (rFn X.K C f) := F.at G.room G.hg
    have base : PE X (.Call (.Name f p) es [] pos) (fun σ H Q => tAm X.K C l σ H fun vs H1 => rFn X.K C f vs H1 Q) := by
      refine ⟨fun pins s σ H Q I h => ?_⟩
      cases es with
      | nil =>
        refine wpAny_Call_Name_kw (ld_glob I hg m1 ?_ (okName_1 ho))
        have h0 : rFn X.K C f [] H Q := by
          obtain ⟨w, env, S, hr, he, q⟩ := h
          rw [hl rfl] at q
          simp only [evL] at q
          exact q w [] H (LeW.refl _) hr .nil
        exact PySem.W.callWith_K0 I.kIn kp (cr pins s σ H [] [] Q I .nil h0)
      | cons e es =>
        simp only [List.all_cons, Bool.and_eq_true] at hs
        refine wpAny_Call_Name_kw (ld_glob I hg m1 ?_ (okName_1 ho))
        refine PySem.W.callWith_K (h₀ := X.base) I.ok.mod.kin kp (thn (ha.run pos pins s σ H _ I h) fun us s1 ⟨vs, H1, I1, r, q⟩ => ⟨I1.kIn, ?_⟩) (starEach_ns hs.1) (backTo_ns hs.2)
        exact cr pins s1 σ H1 vs us Q I1 r q
    refine PE.weak base fun σ H Q q => ?_
    obtain ⟨w, env, S, hr, he, q⟩ := q
    rw [hev] at q
    refine ⟨w, env, S, hr, he, (q.step (rel := RepWs X.K)).imp fun vs H1 h1 => ?_⟩
    obtain ⟨w1, ws, S1, l1, hr1, r1, q1⟩ := h1
    simp only [if_pos hfn] at q1
    exact ⟨w1, S1, ws, hr1, r1, q1⟩
  · refine PE.pick fun σ H Q q => ?_
    obtain ⟨w, env, S, hr, he, q⟩ := q
    rw [hev] at q
    simp only [if_neg hfn] at q
    cases hE : evL C l env S with
    | ok q0 => rw [hE] at q; exact q.elim
    | ex _ _ _ => rw [hE] at q; exact q.elim
    | no => rw [hE] at q; exact q.elim

theorem cls_rep {m : Str} {w : Wd} {H : Hp} {S : Cells} {x : W} {v : V} {c : Str} (hr : HRel X.K S w H) (r : RepW X.K w x v) (e : clsOf m x S = some c) : ∃ a dx fs, v = .ref a ∧ H a = some (.ins (He.ga X.K c) dx fs) ∧ fs.lookup m = none := by
  unfold clsOf at e
  split at e
  · rename_i c' fs
    split at e
    · rename_i hn
      cases e
      obtain ⟨ad, dx, fs', rfl, ho, rs⟩ := RepP.top hr.le (show RepP X.K w.F (.obj c fs) v from r)
      refine ⟨ad, dx, fs', rfl, ho, ?_⟩
      have no : ∀ {fs : List (Str × P)} {fs' : List (Str × V)}, RepPf X.K w.F fs fs' → (fs.lookup m).isNone = true → fs'.lookup m = none := by
        intro fs
        induction fs with
        | nil =>
          intro fs' r _
          unfold RepPf at r
          subst r
          rfl
        | cons a l ih =>
          intro fs' r h
          obtain ⟨k0, x0⟩ := a
          unfold RepPf at r
          obtain ⟨v0, t, rfl, _, h2⟩ := r
          rw [List.lookup_cons] at h ⊢
          cases hk : (m == k0) with
          | true => rw [hk] at h; cases h
          | false =>
            rw [hk] at h
            exact ih h2 h
      exact no rs hn
    · cases e
  · rename_i n
    obtain ⟨ad, hn, rfl⟩ := r
    split at e
    · rename_i c' fs hS
      split at e
      · rename_i hnn
        cases e
        rcases hr.cell n _ ad hS hn with z | ⟨_, q0⟩
        · cases z
        · obtain ⟨dx, fs', ho, rs⟩ := q0
          refine ⟨ad, dx, fs', rfl, ho, ?_⟩
          have no : ∀ {fs : List (Str × W)} {fs' : List (Str × V)}, RepWk X.K w fs fs' → (fs.lookup m).isNone = true → fs'.lookup m = none := by
            intro fs fs' r
            induction r with
            | nil => intro _; rfl
            | @cons a b as bs h t ih =>
              intro e
              obtain ⟨k0, x0⟩ := a
              obtain ⟨k1, v1⟩ := b
              obtain ⟨rfl, h2⟩ := h
              rw [List.lookup_cons] at e ⊢
              cases hk : (m == k0) with
              | true => rw [hk] at e; cases e
              | false =>
                rw [hk] at e
                exact ih e
          exact no rs hnn
      · cases e
    · cases e
  · cases e
theorem c_meth (G : Gd C ct k X) {a l : E} {m : Str} {x : Expr} {es : List Expr} {apos : Pos} (hb : notSuper x = true) (hs : es.all notStar = true) (hn : es.length < 29) (hline : (apos.endLine == pos.line) = true) (ha : PE X x (tE X.K C a)) (hA : PA X es (tAm X.K C l)) (hl : es = [] → l = .nil) :
    PE X (.Call (.Attribute x m apos) es [] pos) (tE X.K C (.meth a m l)) := by
  have base : PE X (.Call (.Attribute x m apos) es [] pos) (fun σ H Q => tE X.K C a σ H fun v H1 => ∃ c ad dx fs, v = .ref ad ∧ H1 ad = some (.ins (He.ga X.K c) dx fs) ∧ fs.lookup m = none ∧ C.g.met c m = true ∧
      tAm X.K C l σ H1 fun vs H2 => rFn X.K C (c ++ "." ++ m) (v :: vs) H2 Q) := by
    refine ⟨fun pins s σ H Q I h => ?_⟩
    refine PySem.W.methodCall_KW (thn (ha.run pins s σ H _ I h) fun u s1 hh => ?_) (meth_eq hb hs hn hline)
    obtain ⟨v, H1, I1, rv, c, ad, dx, fs, rfl, ho, hno, hm, q⟩ := hh
    obtain rfl : u = Value.ref ad := rv
    obtain ⟨fa, hc, hM, F⟩ := G.met c m hm
    have cr : CallR X (.ref fa) (rFn X.K C (c ++ "." ++ m)) := F.at G.room G.hg
    refine getmeth_ok I1 ho hc hM hno ?_
    cases es with
    | nil =>
      have h0 : rFn X.K C (c ++ "." ++ m) [.ref ad] H1 Q := by
        obtain ⟨w, env, S, hr, he, q⟩ := q
        rw [hl rfl] at q
        simp only [evL] at q
        exact q w [] H1 (LeW.refl _) hr .nil
      exact PySem.W.callWith_K0 (first := [.ref ad]) I1.kIn hM.kp (cr pins s1 σ H1 [.ref ad] [.ref ad] Q I1 (.cons rfl .nil) h0)
    | cons e es =>
      simp only [List.all_cons, Bool.and_eq_true] at hs
      refine PySem.W.callWith_K (first := [.ref ad]) (h₀ := X.base) I.ok.mod.kin hM.kp (thn (hA.run pos pins s1 σ H1 _ I1 q) fun us s2 ⟨vs, H2, I2, r, q2⟩ => ⟨I2.kIn, ?_⟩) (starEach_ns hs.1) (backTo_ns hs.2)
      exact cr pins s2 σ H2 (.ref ad :: vs) (.ref ad :: us) Q I2 (.cons rfl r) q2
  refine PE.weak base fun σ H Q q => ?_
  obtain ⟨w, env, S, hr, he, q⟩ := q
  simp only [evE] at q
  refine ⟨w, env, S, hr, he, (q.step (rel := RepW X.K)).imp fun v H1 h1 => ?_⟩
  obtain ⟨w1, x1, S1, l1, hr1, r1, q1⟩ := h1
  simp only at q1
  split at q1
  · rename_i c hc
    split at q1
    · rename_i hm
      obtain ⟨ad, dx, fs, rfl, ho, hno⟩ := cls_rep hr1 r1 hc
      refine ⟨c, ad, dx, fs, rfl, ho, hno, hm, w1, env, S1, hr1, he.mono l1, (q1.step (rel := RepWs X.K)).imp fun vs H2 h2 => ?_⟩
      obtain ⟨w2, ws, S2, l2, hr2, r2, q2⟩ := h2
      exact ⟨w2, S2, x1 :: ws, hr2, .cons (r1.mono l2) r2, q2⟩
    · exact q1.elim
  · exact q1.elim

/-! ### in by an own __contains__ -/
def rHas (X : Cx) (C : Cn) (neg : Bool) : R2 := fun x y H Q => ∃ c ad dx fs, y = .ref ad ∧ H ad = some (.ins (He.ga X.K c) dx fs) ∧ C.g.met c "__contains__" = true ∧
  rFn X.K C (c ++ "." ++ "__contains__") [y, x] H fun r H' => ∃ b, r = .bl b ∧ Q (.bl (if neg = true then !b else b)) H'
theorem op_has (G : Gd C ct k X) (neg : Bool) : OpR X (compareOp (if neg = true then .NotIn else .In)) (rHas X C neg) := by
  intro pins s σ H x y v u Q I rx ry ⟨c, ad, dx, fs, ey, ho, hm, q⟩
  subst ey
  cases ry
  obtain ⟨fa, hc, hM, F⟩ := G.met c "__contains__" hm
  have cr : CallR X (.ref fa) (rFn X.K C (c ++ "." ++ "__contains__")) := F.at G.room G.hg
  obtain ⟨mA, J, _⟩ := ins_get I.hok ho
  obtain ⟨od, J, _⟩ := J.look
  obtain ⟨m, hF⟩ := I.fr
  have run := cr pins s σ H [.ref ad, x] [.ref ad, v] _ I (.cons rfl (.cons rx .nil)) q
  cases neg with
  | false =>
    refine PySem.W.in_K hF I.ok.mod.kin J hM.at_ hM.fn (wpAny_mono run (fun r s' hh => ?_) fun _ _ z => z)
    obtain ⟨rv, H', I', rr, b, rfl, q'⟩ := hh
    cases rr
    exact wpAny_pure ⟨.bl b, H', I', rfl, q'⟩
  | true =>
    refine PySem.W.notIn_K hF I.ok.mod.kin J hM.at_ hM.fn (wpAny_mono run (fun r s' hh => ?_) fun _ _ z => z)
    obtain ⟨rv, H', I', rr, b, rfl, q'⟩ := hh
    cases rr
    exact wpAny_pure ⟨.bl (!b), H', I', rfl, q'⟩
theorem has_read {neg : Bool} {a b : E} {σ : L2.St} {H : Hp} {Q : VK} (q : tE X.K C (.has neg a b) σ H Q) : tOp (rHas X C neg) (tE X.K C a) (tE X.K C b) σ H Q := by
  obtain ⟨w, env, S, hr, he, q⟩ := q
  simp only [evE] at q
  refine ⟨w, env, S, hr, he, (q.step (rel := RepW X.K)).imp fun v H1 h1 => ?_⟩
  obtain ⟨w1, x, S1, l1, hr1, r1, q1⟩ := h1
  refine ⟨w1, env, S1, hr1, he.mono l1, (q1.step (rel := RepW X.K)).imp fun u H2 h2 => ?_⟩
  obtain ⟨w2, y, S2, l2, hr2, r2, q2⟩ := h2
  simp only at q2
  split at q2
  · rename_i c hc
    split at q2
    · rename_i hm
      obtain ⟨ad, dx, fs, rfl, ho, _⟩ := cls_rep hr2 r2 hc
      refine ⟨c, ad, dx, fs, rfl, ho, hm, w2, S2, [y, x], hr2, .cons r2 (.cons (r1.mono l2) .nil), (q2.step (rel := RepW X.K)).imp fun z H3 h3 => ?_⟩
      obtain ⟨w3, r, S3, l3, hr3, r3, q3⟩ := h3
      simp only at q3
      split at q3
      · rename_i kk
        have r3' : RepP X.K w3.F (.bl kk) z := r3
        unfold RepP at r3'
        subst r3'
        exact ⟨kk, rfl, q3 w3 _ _ (LeW.refl _) hr3 (show RepP X.K w3.F (.bl _) _ from P_bl)⟩
      · exact q3.elim
    · exact q2.elim
  · exact q2.elim
theorem c_has (G : Gd C ct k X) {neg : Bool} {a b : E} {p : CmpOp} {l r : Expr} (h : (if neg = true then CmpOp.NotIn else CmpOp.In) = p) (hm : behindInMarks p r = false) (ha : PE X l (tE X.K C a)) (hb : PE X r (tE X.K C b)) : PE X (.Compare l [p] [r] pos) (tE X.K C (.has neg a b)) := by
  subst h
  exact PE.weak (pe_cmpR (op_has G neg) ha hb hm) fun σ H Q q => has_read q
/-! ### built-in functions -/
theorem blt_none (G : Gd C ct k X) {x : Str} (h : x ∈ bltNames) : X.mg x = none := G.blt x h
theorem a_one {a : E} {e : Expr} {σ : L2.St} {H : Hp} {Q : List V → Hp → Prop} (h : tE X.K C a σ H fun v H1 => Q [v] H1) : tAm X.K C (.cons a .nil) σ H Q := by
  obtain ⟨w, env, S, hr, he, q⟩ := h
  refine ⟨w, env, S, hr, he, ?_⟩
  simp only [evL]
  cases hE : evE C a env S with
  | ok q0 =>
    rw [hE] at q
    intro w1 vs H1 l1 hr1 r1
    cases r1 with
    | cons r1 r2 =>
      cases r2
      exact q w1 _ H1 l1 hr1 r1
  | ex _ _ _ => rw [hE] at q; exact q.elim
  | no => rw [hE] at q; exact q.elim
theorem kitStr_flat {K : PySem.W.Frag} {F H : Hp} {p : P} {v : V} (r : RepT K F H p v) (h : plainTy p = true) : ∃ t, TyX K H v t ∧ PySem.W.kitOne K t (.type "str") = some (isStrP p) := by
  cases p with
  | non => cases T_non r; exact ⟨_, .base .non, kit_ty (show kitB "NoneType" "str" = some false by decide +kernel)⟩
  | bl b => cases T_bl r; exact ⟨_, .base (.bl b), kit_ty (show kitB "bool" "str" = some false by decide +kernel)⟩
  | int b => cases T_int r; exact ⟨_, .base (.int b), kit_ty (show kitB "int" "str" = some false by decide +kernel)⟩
  | str b => cases T_str r; exact ⟨_, .base (.str b), kit_ty (show kitB "str" "str" = some true by decide +kernel)⟩
  | lst xs =>
    obtain ⟨a, vs, rfl, ho, rs, z⟩ := r
    exact ⟨_, .base (.lst ho), kit_ty (show kitB "list" "str" = some false by decide +kernel)⟩
  | tup xs =>
    obtain ⟨a, vs, rfl, ho, rs, z⟩ := r
    rcases ho with ho | ⟨o, its, n, hk, hc, _⟩
    · rcases ho with ho | ⟨ob, ho⟩
      · exact ⟨_, .base (.tup ho), kit_ty (show kitB "tuple" "str" = some false by decide +kernel)⟩
      · exact ⟨_, .fTuple ho, kit_ty (show kitB "tuple" "str" = some false by decide +kernel)⟩
    · exact ⟨_, .kTuple hk hc, kit_ty (show kitB "tuple" "str" = some false by decide +kernel)⟩
  | dct xs =>
    obtain ⟨a, vs, o, rfl, ho, c, rs, z⟩ := r
    rcases rd_core ho c with ho | ⟨ob, ho⟩
    · exact ⟨_, .base (.dK ho), kit_ty (show kitB "dict" "str" = some false by decide +kernel)⟩
    · exact ⟨_, .fDict ho, kit_ty (show kitB "dict" "str" = some false by decide +kernel)⟩
  | obj _ _ => cases h
  | scr _ => cases h
theorem bf_blt {f : BF} (h : f ≠ .isStr) : bfName f ∈ bltNames ∧ bootBuiltins (bfName f) = some (bfV f) := by
  cases f <;> first
    | exact absurd rfl h
    | exact ⟨by decide +kernel, by decide +kernel⟩
theorem c_bf (G : Gd C ct k X) {f : BF} {l : E} {x : Str} {e : Expr} {p : Pos} (hf : gB ct (bfName f) x = true) (hs : notStar e = true) (h1 : f ≠ .isStr) (hA : PA X [e] (tAm X.K C l)) : PE X (.Call (.Name x p) [e] [] pos) (tE X.K C (.bf f l)) := by
  obtain ⟨rfl, hg, ho⟩ := gB_ok G hf
  have hu := G.hu
  obtain ⟨b1, b2⟩ := bf_blt h1
  have base : PE X (.Call (.Name (bfName f) p) [e] [] pos) (tCB (rAnyCall X (bfV f)) (tAm X.K C l)) := by
    have st := starEach_ns (e := e) (es := []) (env := X.env) hs
    have d : (∃ id, bfV f = .builtin id) ∨ ∃ T, bfV f = .type T := by cases f <;> first | exact .inl ⟨_, rfl⟩ | exact .inr ⟨_, rfl⟩
    rcases d with ⟨id, d⟩ | ⟨T, d⟩
    · rw [d] at b2 ⊢
      exact pe_callB (call_any _) hg (blt_none G b1) b2 hA (okName_3 ho) (okName_1 ho) st rfl
    · rw [d] at b2 ⊢
      exact pe_callTy (call_any _) hg (blt_none G b1) b2 hA (okName_3 ho) (okName_1 ho) st rfl
  refine PE.weak base fun σ H Q q => ?_
  obtain ⟨w, env, S, hr, he, q⟩ := q
  simp only [evE] at q
  refine ⟨w, env, S, hr, he, (q.step (rel := RepWs X.K)).imp fun vs H1 h1 => ?_⟩
  obtain ⟨w1, ws, S1, l1, hr1, r1, q1⟩ := h1
  simp only at q1
  split at q1
  · rename_i ps hp
    split at q1
    · rename_i pp hb
      rcases bf_snd f G.calm G.hg (by omega) hr1 (hr1.views hp r1) hb (fun w' v H' lw hr' rp => q1 w' v H' lw hr' rp) with z | z
      · exact absurd z ‹f ≠ .isStr›
      · exact z
    · exact q1.elim
  · exact q1.elim
theorem c_mx (G : Gd C ct k X) {l : E} {x : Str} {e e' : Expr} {p : Pos} (hf : gB ct "max" x = true) (hs : notStar e = true) (hs' : notStar e' = true) (hA : PA X [e, e'] (tAm X.K C l)) : PE X (.Call (.Name x p) [e, e'] [] pos) (tE X.K C (.mx l)) := by
  obtain ⟨rfl, hg, ho⟩ := gB_ok G hf
  have hu := G.hu
  have st := starEach_ns (e := e) (es := [e']) (env := X.env) hs
  have base : PE X (.Call (.Name "max" p) [e, e'] [] pos) (tCB (rAnyCall X (.builtin "max")) (tAm X.K C l)) :=
    pe_callB (call_any _) hg (blt_none G (by decide +kernel)) (by decide +kernel) hA (okName_3 ho) (okName_1 ho) st (backTo_ns (by simp [hs']))
  refine PE.weak base fun σ H Q q => ?_
  obtain ⟨w, env, S, hr, he, q⟩ := q
  simp only [evE] at q
  refine ⟨w, env, S, hr, he, (q.step (rel := RepWs X.K)).imp fun vs H1 h1 => ?_⟩
  obtain ⟨w1, ws, S1, l1, hr1, r1, q1⟩ := h1
  simp only at q1
  split at q1
  · rename_i ps hp
    split at q1
    · rename_i pp hb
      rcases bf_snd .max2 G.calm G.hg (by omega) hr1 (hr1.views hp r1) hb (fun w' v H' lw hr' rp => q1 w' v H' lw hr' rp) with z | z
      · cases z
      · exact z
    · exact q1.elim
  · exact q1.elim
end
end LS

set_option Elab.async false
set_option linter.all false
set_option maxRecDepth 100000
set_option maxHeartbeats 1000000
/-! LS10: isinstance, list(..), f-strings, dict displays, built-in methods. -/
namespace LS
open PySem PySem.Spec PyProof.Rows L2
section
variable {X : Cx} {C : Cn} {ct : Ct} {k : Nat} {pos : Pos}
theorem c_isStr (G : Gd C ct k X) {a : E} {x c : Str} {e : Expr} {p pc : Pos} (hf : gB ct "isinstance" x = true) (hc : gB ct "str" c = true) (hs : notStar e = true) (ha : PE X e (tE X.K C a)) :
    PE X (.Call (.Name x p) [e, .Name c pc] [] pos) (tE X.K C (.bf .isStr (.cons a .nil))) := by
  obtain ⟨rfl, hg, ho⟩ := gB_ok G hf
  obtain ⟨rfl, hg2, ho2⟩ := gB_ok G hc
  have hu := G.hu
  have st := starEach_ns (e := e) (es := [.Name "str" pc]) (env := X.env) hs
  have hN : PE X (.Name "str" pc) (tC (.ty "str")) := pe_bltn hg2 (G.blt _ (by decide +kernel)) (by decide +kernel : bootBuiltins "str" = some (.type "str")) rfl (okName_3 ho2) (okName_1 ho2)
  refine PE.weak (pe_callB call_isi hg (G.blt _ (by decide +kernel)) (by decide +kernel) (pa_cons ha (pa_cons hN pa_nil) st) (okName_3 ho) (okName_1 ho) st rfl) fun σ H Q q => ?_
  obtain ⟨w, env, S, hr, he, q⟩ := q
  simp only [evE, evL] at q
  have q' : RdG X.K (RepW X.K) w ((evE C a env S).bind fun q0 => match viewL [q0.1] q0.2 with
    | some ps => match bfOp .isStr ps with
      | some p => .ok (.v p, q0.2)
      | none => .no
    | none => .no) Q := by
    cases hE : evE C a env S with
    | ok q0 => rw [hE] at q; exact q
    | ex _ _ _ => rw [hE] at q; exact q.elim
    | no => rw [hE] at q; exact q.elim
  refine ⟨w, env, S, hr, he, (q'.step (rel := RepW X.K)).imp fun v H1 h1 => ?_⟩
  obtain ⟨w1, x1, S1, l1, hr1, r1, q1⟩ := h1
  simp only at q1
  split at q1
  · rename_i ps hp
    split at q1
    · rename_i pp hb
      cases hv : x1.view S1 with
      | none => simp [viewL, hv] at hp
      | some p0 =>
        simp [viewL, hv] at hp
        subst hp
        unfold bfOp at hb
        simp only at hb
        split at hb
        · rename_i hpl
          cases hb
          obtain ⟨t, ty, kt⟩ := kitStr_flat (hr1.view hv r1) hpl
          exact ⟨v, .ty "str", t, .type "str", isStrP p0, rfl, .ty "str", ty, kt, q1 w1 _ _ (LeW.refl _) hr1 (show RepP X.K w1.F (.bl (isStrP p0)) _ from P_bl)⟩
        · cases hb
    · exact q1.elim
  · exact q1.elim
theorem rep_ints {K : PySem.W.Frag} {w : Wd} : ∀ {ns : List Int}, RepWs K w (ns.map fun i => .v (.int i)) (ns.map V.int)
  | [] => .nil
  | n :: ns => .cons (show RepP K w.F (.int n) (.int n) from P_int) rep_ints
theorem c_listC (G : Gd C ct k X) {a : E} {x : Str} {e : Expr} {p : Pos} (hf : gB ct "list" x = true) (hs : notStar e = true) (ha : PE X e (tE X.K C a)) : PE X (.Call (.Name x p) [e] [] pos) (tE X.K C (.listC a)) := by
  obtain ⟨rfl, hg, ho⟩ := gB_ok G hf
  have st := starEach_ns (e := e) (es := []) (env := X.env) hs
  refine PE.weak (pe_callTy call_list_of hg (G.blt _ (by decide +kernel)) (by decide +kernel) (pa_cons ha pa_nil st) (okName_3 ho) (okName_1 ho) st rfl) fun σ H Q q => ?_
  obtain ⟨w, env, S, hr, he, q⟩ := q
  simp only [evE] at q
  refine ⟨w, env, S, hr, he, (q.step (rel := RepW X.K)).imp fun v H1 h1 => ?_⟩
  obtain ⟨w1, x1, S1, l1, hr1, r1, q1⟩ := h1
  have fin : ∀ {ws : List W} {vs : List V} {p : Addr}, H1 p = none → RepWs X.K w1 ws vs → vs.length ≤ sizeLine → RdG X.K (RepW X.K) w1 (alloc (.lst ws) S1) Q → Q (.ref p) (upd H1 p (.lst vs)) := fun {ws vs p} hp rw hz q2 => by
    unfold alloc at q2
    split at q2
    · rename_i hb
      have lw : LeW w1 ⟨w1.ρ ++ [p], w1.F⟩ := ⟨List.prefix_append _ _, LeL.refl _⟩
      obtain ⟨hr2, _⟩ := hr1.newC (o := .lst vs) hp hb ⟨vs, upd_same, rw.mono lw, hz⟩
      exact q2 _ _ _ lw hr2 ⟨p, by rw [← hr1.len]; simp, rfl⟩
    · exact q2.elim
  simp only at q1
  split at q1
  · rename_i xs hx
    obtain ⟨ad, vs, rfl, hh, rs, z⟩ := hr1.view hx r1
    exact ⟨ad, vs, rfl, .inl (SqL.of hh), fun l hl => fin hl (rep_map rs) z q1⟩
  · rename_i xs hx
    obtain ⟨ad, vs, rfl, hh, rs, z⟩ := hr1.view hx r1
    exact ⟨ad, vs, rfl, .inr hh, fun l hl => fin hl (rep_map rs) z q1⟩
  · rename_i ns hx
    obtain ⟨ad, rfl, hh, z⟩ := hr1.view hx r1
    exact ⟨ad, _, rfl, .inl hh, fun l hl => fin hl rep_ints (by rw [List.length_map]; exact z) q1⟩
  · exact q1.elim
/-! ### list(d.items()) -/
theorem rep_items {K : PySem.W.Frag} {F G : Hp} (l : LeL F G) : ∀ {as : List Addr} {ps : List (Key × P)} {kvs : List (Key × V)}, RepPk K F ps kvs → Paired (fun (t : Addr) (q : Key × V) => G t = some (.tup [kV q.1, q.2])) as kvs → RepPs K G (ps.map fun z => .tup [kP z.1, z.2]) (as.map V.ref)
  | _, [], _, r, h => by
    unfold RepPk at r
    subst r
    cases h
    unfold RepPs
    rfl
  | _, (k, p) :: ps, _, r, h => by
    unfold RepPk at r
    obtain ⟨v, t, rfl, h1, h2⟩ := r
    cases h with
    | @cons a _ as _ ha ht =>
      show RepPs K G (P.tup [kP k, p] :: _) (V.ref a :: _)
      unfold RepPs
      refine ⟨_, _, rfl, ?_, rep_items l h2 ht⟩
      unfold RepP
      refine ⟨a, [kV k, v], rfl, .inl (.inl ha), ?_, by show 2 ≤ sizeLine; decide⟩
      unfold RepPs
      refine ⟨_, _, rfl, ?_, ?_⟩
      · cases k
        · exact P_int
        · exact P_str
      · unfold RepPs
        refine ⟨_, _, rfl, RepP.mono l p h1, ?_⟩
        unfold RepPs
        rfl
theorem paired_in {α β : Type} {R R' : α → β → Prop} : ∀ {xs : List α} {ys : List β}, Paired R xs ys → (∀ x y, x ∈ xs → R x y → R' x y) → Paired R' xs ys
  | _, _, .nil, _ => .nil
  | _, _, .cons h t, k => .cons (k _ _ List.mem_cons_self h) (paired_in t fun x y hx => k x y (List.mem_cons_of_mem _ hx))
/-- many new frozen things -/
theorem HRel.news {K : PySem.W.Frag} {S : Cells} {w : Wd} {H H' : Hp} (hr : HRel K S w H) (N : List Addr) (ext : ∀ b o, H b = some o → H' b = some o) (hN : ∀ b ∈ N, H b = none) :
    HRel K S ⟨w.ρ, fun b => if b ∈ N then H' b else w.F b⟩ H' ∧ LeW w ⟨w.ρ, fun b => if b ∈ N then H' b else w.F b⟩ := by
  have off : ∀ b o, H b = some o → b ∉ N := fun b o e hm => by
    rw [hN b hm] at e
    cases e
  have lw : LeW w ⟨w.ρ, fun b => if b ∈ N then H' b else w.F b⟩ := ⟨List.prefix_refl _, fun b o e => .inl (by
    show (if b ∈ N then H' b else w.F b) = some o
    rw [if_neg (off b o (hr.le b o e))]
    exact e)⟩
  refine ⟨⟨fun b o e => ?_, hr.len, hr.inj, hr.wf, fun n c a e f => ?_, fun n a e => ?_⟩, lw⟩
  · have e : (if b ∈ N then H' b else w.F b) = some o := e
    by_cases hb : b ∈ N
    · rw [if_pos hb] at e
      exact e
    · rw [if_neg hb] at e
      exact ext b o (hr.le b o e)
  · obtain ⟨o', ho⟩ := hr.trk n a f
    rcases hr.cell n c a e f with h | ⟨h1, h2⟩
    · exact .inl h
    · refine .inr ⟨?_, h2.keep lw (by rw [ho]; exact ext a o' ho)⟩
      show (if a ∈ N then H' a else w.F a) = none
      rw [if_neg (off a o' ho)]
      exact h1
  · obtain ⟨o', ho⟩ := hr.trk n a e
    exact ⟨o', ext a o' ho⟩
/-- list(e.items()), the dict locked or not -/
def rItemsR : V → Hp → VK → Prop := fun x H Q => ∃ (d : Addr) (kvs : List (Key × V)), x = .ref d ∧ Rd H d (.dK kvs) ∧
  ∀ (H' : Hp) (p : Addr) (ts : List Addr), (∀ b o, H b = some o → H' b = some o) → H p = none → (∀ t ∈ ts, H t = none) → p ∉ ts → H' p = some (.lst (ts.map V.ref)) → Paired (fun (t : Addr) (q : Key × V) => H' t = some (.tup [kV q.1, q.2])) ts kvs → ts.length ≤ sizeLine → Q (.ref p) H'
theorem pe_itemsR {e : Expr} {te : TE} {p apos cpos pos : Pos} (hc : X.calm = true) (he : PE X e te) (hg : Gl X "list") (hm : X.mg "list" = none) (hb : notSuper e = true) (hline : (apos.endLine == cpos.line) = true) :
    PE X (.Call (.Name "list" p) [.Call (.Attribute e "items" apos) [] [] cpos] [] pos) (fun σ H Q => te σ H fun x H1 => rItemsR x H1 Q) := by
  have hs : starEach [.Call (.Attribute e "items" apos) [] [] cpos] X.env = (false, eval (.Call (.Attribute e "items" apos) [] [] cpos) X.env) :: starEach [] X.env := starEach_ns rfl
  have hbase : attributeBase e "items" X.env (eval e X.env) = eval e X.env := attrBase_ns hb
  refine ⟨fun pins s σ H Q I hq => wpAny_Call_Name_kw (ld_blt I hg hm (show bootBuiltins "list" = some (.type "list") by decide +kernel) (PyProof.Rows.callWith_type1 ?_ hs rfl))⟩
  rw [hs]
  show wpAny _ _ (spliced ((false, eval (.Call (.Attribute e "items" apos) [] [] cpos) X.env) :: backTo pos (starEach [] X.env))) _ _ s
  refine Calls.spliced_cons (wpAny_Call_method (T := "dict") (id := "dict.items") hbase rfl hline F.plainAttrs_dict F.slot_dict_items F.type_dict_items (thn (he.run pins s σ H _ I hq) fun u s1 hh => ?_))
  obtain ⟨x, H1, I1, rx, d, kvs, rfl, hd, q⟩ := hh
  obtain rfl : u = Value.ref d := rx
  obtain ⟨hz, hs0, vs, kv, hdo⟩ := dk_rd I1.hok hd
  obtain ⟨ep, hat⟩ := hdo.dictAt
  have lk := Paired.length kv
  have I2 : Inv X pins σ H1 { s1 with heap := s1.heap.push { cls := .type "dict_items", data := .fields #[.ref d] } } := I1.kept (t' := s1.toks) fun b ob z => Heap.get?_push_of_some _ z
  refine ⟨hdo.typeIs, hdo.mapOf.noDict, ?_⟩
  show wpAny _ _ (callWith cpos (.builtin "dict.items") [.ref d] [] []) _ X.xe s1
  refine method_meetsIn F.slot_dict_items F.entry_dict_items rfl (PySem.evalArgs_none ⟨rfl, hdo.typeIs, F.args_dict_items_1 _, _, meets_dict_items (mixKind X.prog X.w) d hs0, ⟨vs, hdo⟩, Calls.spliced_nil ?_⟩)
  refine PySem.W.kdx_call (knd := mixKind X.prog X.w) (kvs := vs) (ep := ep) (I1.ok.hd hc) ⟨_, Heap.get?_push_size _ rfl, rfl, rfl⟩ (hat.push _) (by omega) fun h' tk acc c as hk hS hl hG hacc => ?_
  obtain ⟨H', k1, k2, k3, k4, k5, k6, J⟩ := LiI.items_laid (tk := tk) I2 hz kv hk hS hl hG hacc
  exact ⟨.ref _, H', J, rfl, q H' _ as k1 k2 k3 k4 k5 k6 (by omega)⟩
theorem c_listItems (G : Gd C ct k X) {cell : Bool} {a : E} {x : Str} {e : Expr} {p apos cpos : Pos} (hf : gB ct "list" x = true) (hb : notSuper e = true) (hline : (apos.endLine == cpos.line) = true) (ha : PE X e (tE X.K C a)) : PE X (.Call (.Name x p) [.Call (.Attribute e "items" apos) [] [] cpos] [] pos) (tE X.K C (.listItems cell a)) := by
  obtain ⟨rfl, hg, ho⟩ := gB_ok G hf
  refine PE.weak (pe_itemsR G.calm ha hg (G.blt _ (by decide +kernel)) hb hline) fun σ H Q q => ?_
  obtain ⟨w, env, S, hr, he, q⟩ := q
  simp only [evE] at q
  refine ⟨w, env, S, hr, he, (q.step (rel := RepW X.K)).imp fun v H1 h1 => ?_⟩
  obtain ⟨w1, y, S1, l1, hr1, r1, q1⟩ := h1
  simp only at q1
  split at q1
  · rename_i kvs hv
    obtain ⟨ad, kvs', o, rfl, ho, c, rk, z⟩ := hr1.view hv r1
    refine ⟨ad, kvs', rfl, rd_core ho c, fun H' pp ts ext hp hts hnp hl hpr hlen => ?_⟩
    have hFt : ∀ (N : List Addr) (G : Hp), (∀ t ∈ ts, t ∈ N) → (∀ t ∈ ts, G t = H' t) → Paired (fun (t : Addr) (q : Key × V) => (if t ∈ N then G t else w1.F t) = some (.tup [kV q.1, q.2])) ts kvs' := fun N G h1 h2 => paired_in hpr fun t qq ht h => by
      rw [if_pos (h1 t ht), h2 t ht]
      exact h
    split at q1
    · have ne : ∀ {b : Addr} {o : HO}, H1 b = some o → b ≠ pp := fun {b o} e1 e2 => by
        rw [e2, hp] at e1
        cases e1
      obtain ⟨hr2, lw⟩ := hr1.news (H' := fun b => if b = pp then none else H' b) ts (fun b o e1 => by
        show (if b = pp then none else H' b) = some o
        rw [if_neg (ne e1)]
        exact ext b o e1) hts
      have rr := rep_items lw.2 rk (hFt ts _ (fun _ h => h) fun t ht => if_neg fun (e1 : t = pp) => hnp (e1 ▸ ht))
      have hup : upd (fun b => if b = pp then none else H' b) pp (.lst (ts.map V.ref)) = H' := by
        funext b
        by_cases hb : b = pp
        · rw [hb, upd_same, hl]
        · rw [upd_ne hb]
          exact if_neg hb
      unfold alloc at q1
      split at q1
      · rename_i hlow
        obtain ⟨hr3, lw3⟩ := hr2.newC (p := pp) (o := .lst (ts.map V.ref)) (c := .lst ((kvs.map fun z => .tup [kP z.1, z.2]).map .v)) (if_pos rfl) hlow ⟨ts.map V.ref, upd_same, rep_map rr, by rw [List.length_map]; exact hlen⟩
        rw [hup] at hr3
        refine q1 _ _ _ (lw.trans lw3) hr3 ⟨pp, ?_, rfl⟩
        show (w1.ρ ++ [pp])[S1.length]? = some pp
        rw [← hr1.len]
        simp
      · exact q1.elim
    · obtain ⟨hr2, lw⟩ := hr1.news (pp :: ts) ext (fun b hb => by
        rcases List.mem_cons.mp hb with rfl | hb
        · exact hp
        · exact hts b hb)
      refine q1 _ _ _ lw hr2 ?_
      show RepP X.K _ (.lst _) _
      unfold RepP
      refine ⟨pp, ts.map V.ref, rfl, ?_, rep_items lw.2 rk (hFt (pp :: ts) H' (fun _ h => List.mem_cons_of_mem _ h) fun _ _ => rfl), by rw [List.length_map]; exact hlen⟩
      show (if pp ∈ pp :: ts then H' pp else w1.F pp) = _
      rw [if_pos List.mem_cons_self]
      exact hl
  · exact q1.elim
/-! ### f-strings -/
def jTs (K : PySem.W.Frag) (C : Cn) : E → List TE
  | .star a l => tE K C a :: jTs K C l
  | .cons a l => tFmt (tE K C a) :: jTs K C l
  | _ => []
theorem str_add_len {a b : Str} (h : a.length + b.length ≤ lim) : (a ++ b).length ≤ sizeLine := by
  rw [strLen_append]
  exact Nat.le_trans h lim_le
theorem j_run {σ : L2.St} {Q : Str → Hp → Prop} (l : E) : ∀ {acc : Str} {H : Hp} {w : Wd} {env : Env} {S : Cells}, HRel X.K S w H → EnvRel X.K w env σ → RdG X.K (fun _ a b => a = b) w (evJ C l env S acc) Q → tJs (jTs X.K C l) acc σ H Q := by
  induction l with
  | nil =>
    intro acc H w env S hr he q
    simp only [evJ] at q
    exact q w acc H (LeW.refl _) hr rfl
  | star a l iha ihl =>
    intro acc H w env S hr he q
    simp only [evJ] at q
    refine ⟨w, env, S, hr, he, (q.step (rel := RepW X.K)).imp fun v H1 h1 => ?_⟩
    obtain ⟨w1, x1, S1, l1, hr1, r1, q1⟩ := h1
    simp only at q1
    split at q1
    · rename_i y
      split at q1
      · rename_i hl
        have r1' : RepP X.K w1.F (.str y) v := r1
        unfold RepP at r1'
        exact ⟨y, r1', str_add_len hl, ihl hr1 (he.mono l1) q1⟩
      · exact q1.elim
    · exact q1.elim
  | cons a l iha ihl =>
    intro acc H w env S hr he q
    simp only [evJ] at q
    refine ⟨w, env, S, hr, he, (q.step (rel := RepW X.K)).imp fun v H1 h1 => ?_⟩
    obtain ⟨w1, x1, S1, l1, hr1, r1, q1⟩ := h1
    simp only at q1
    split at q1
    · rename_i y
      split at q1
      · rename_i hl
        have r1' : RepP X.K w1.F (.str y) v := r1
        unfold RepP at r1'
        exact .inl ⟨y, r1', Nat.le_trans (Nat.le_add_left _ _) (Nat.le_trans hl lim_le), y, rfl, str_add_len hl, ihl hr1 (he.mono l1) q1⟩
      · exact q1.elim
    · rename_i i
      split at q1
      · rename_i hl
        have r1' : RepP X.K w1.F (.int i) v := r1
        unfold RepP at r1'
        exact .inr ⟨i, r1', hl.1, _, rfl, str_add_len hl.2, ihl hr1 (he.mono l1) q1⟩
      · exact q1.elim
    · exact q1.elim
  | _ => intro acc H w env S hr he q; simp only [evJ] at q; exact q.elim
theorem c_fstr {l : E} {v1 v2 : Expr} {rest : List Expr} (h : PJ X (v1 :: v2 :: rest) (jTs X.K C l)) : PE X (.JoinedStr (v1 :: v2 :: rest) pos) (tE X.K C (.fstr l)) := by
  refine PE.weak (pe_joined h) fun σ H Q q => ?_
  obtain ⟨w, env, S, hr, he, q⟩ := q
  simp only [evE] at q
  refine j_run l hr he ((q.step (rel := fun _ a b => a = b)).imp fun t H1 h1 => ?_)
  obtain ⟨w1, x1, S1, l1, hr1, r1, q1⟩ := h1
  subst r1
  exact q1 w1 _ _ (LeW.refl _) hr1 (show RepP X.K w1.F (.str x1) _ from P_str)

/-! ### dict displays -/
def kTs (K : PySem.W.Frag) (C : Cn) : E → List (TE × TE)
  | .kv a b l => (tE K C a, tE K C b) :: kTs K C l
  | _ => []
def relKW (K : PySem.W.Frag) (w : Wd) (xs : List (Key × W)) (vs : List (V × V)) : Prop := ∃ kvs : List (Key × V), vs = kvs.map (fun z => (kV z.1, z.2)) ∧ RepWk K w xs kvs
theorem k_run {σ : L2.St} {Q : List (V × V) → Hp → Prop} (l : E) : ∀ {H : Hp} {w : Wd} {env : Env} {S : Cells} {Q : List (V × V) → Hp → Prop}, HRel X.K S w H → EnvRel X.K w env σ → RdG X.K (relKW X.K) w (evK C l env S) Q → tPairs (kTs X.K C l) σ H Q := by
  induction l with
  | nil =>
    intro H w env S Q hr he q
    simp only [evK] at q
    exact q w [] H (LeW.refl _) hr ⟨[], rfl, .nil⟩
  | kv a b l iha ihb ihl =>
    intro H w env S Q hr he q
    simp only [evK] at q
    refine ⟨w, env, S, hr, he, (q.step (rel := RepW X.K)).imp fun v H1 h1 => ?_⟩
    obtain ⟨w1, x1, S1, l1, hr1, r1, q1⟩ := h1
    refine ⟨w1, env, S1, hr1, he.mono l1, (q1.step (rel := RepW X.K)).imp fun u H2 h2 => ?_⟩
    obtain ⟨w2, x2, S2, l2, hr2, r2, q2⟩ := h2
    refine ihl hr2 (he.mono (l1.trans l2)) ((q2.step (rel := relKW X.K)).imp fun vs H3 h3 => ?_)
    obtain ⟨w3, x3, S3, l3, hr3, r3, q3⟩ := h3
    obtain ⟨kvs, rfl, r3⟩ := r3
    simp only at q3
    split at q3
    · rename_i p
      split at q3
      · rename_i key hk
        have rk : v = kV key := key_v hk (show RepP X.K w1.F p v from r1)
        subst rk
        obtain ⟨q0, e0⟩ := q3.pure_ok
        obtain ⟨q4, e4, e5⟩ := bind_ok e0
        obtain ⟨pf, S4⟩ := q4
        rw [e0] at q3
        cases e5
        obtain ⟨w4, l4, hr4, r4⟩ := frz_snd hr3 (r2.mono l3) e4
        exact q3 w4 _ _ l4 hr4 ⟨(key, u) :: kvs, rfl, .cons ⟨rfl, r4⟩ (RepWk.mono l4 r3)⟩
      · exact q3.elim
    · exact q3.elim
  | _ => intro H w env S Q hr he q; simp only [evK] at q; exact q.elim
theorem RepWk.any {K : PySem.W.Frag} {w : Wd} (key : Key) {xs : List (Key × W)} {vs : List (Key × V)} (r : RepWk K w xs vs) : (xs.any fun q => decide (q.1 = key)) = (vs.any fun q => decide (q.1 = key)) := by
  induction r with
  | nil => rfl
  | @cons a b as bs h t ih =>
    rw [List.any_cons, List.any_cons, ih, h.1]
theorem RepWk.app {K : PySem.W.Frag} {w : Wd} : ∀ {xs ys : List (Key × W)} {vs us : List (Key × V)}, RepWk K w xs vs → RepWk K w ys us → RepWk K w (xs ++ ys) (vs ++ us)
  | _, _, _, _, .nil, s => s
  | _, _, _, _, .cons r t, s => .cons r (RepWk.app t s)
theorem RepWk.put {K : PySem.W.Frag} {w : Wd} {key : Key} {p : W} {z : V} (hp : RepW K w p z) {xs : List (Key × W)} {vs : List (Key × V)} (r : RepWk K w xs vs) : RepWk K w (setK xs key p) (putK vs key z) := by
  unfold setK putK
  rw [RepWk.any key r]
  split
  · rename_i hh
    clear hh
    induction r with
    | nil => exact .nil
    | @cons a b as bs h t ih =>
      rw [List.map_cons, List.map_cons]
      refine .cons ?_ ih
      by_cases e : a.1 = key
      · rw [if_pos e, if_pos (h.1 ▸ e)]
        exact ⟨h.1, hp⟩
      · rw [if_neg e, if_neg (fun z => e (h.1.trans z))]
        exact h
  · exact RepWk.app r (.cons ⟨rfl, hp⟩ .nil)
theorem RepWk.merge {K : PySem.W.Frag} {w : Wd} {ys : List (Key × W)} {us : List (Key × V)} (q : RepWk K w ys us) : ∀ {xs : List (Key × W)} {vs : List (Key × V)}, RepWk K w xs vs → RepWk K w (ys.foldl (fun acc z => setK acc z.1 z.2) xs) (mergeK vs us) := by
  induction q with
  | nil => exact fun r => r
  | @cons a b as bs h t ih =>
    intro xs vs r
    show RepWk K w (as.foldl _ (setK xs a.1 a.2)) (mergeK (putK vs b.1 b.2) bs)
    refine ih ?_
    rw [← h.1]
    exact RepWk.put h.2 r
/-- the end of a list or dict that was built in the cell D -/
theorem fin_snd {K : PySem.W.Frag} {cell : Bool} {S S3 : Cells} {w0 w : Wd} {H : Hp} {x : W} {D : Nat} {p : Addr} (hr : HRel K S w H) (hp : w.ρ[D]? = some p) (h0 : LeW w0 w) (hD : w0.ρ.length ≤ D) (e : finC cell D S = .ok (x, S3)) :
    ∃ w', LeW w0 w' ∧ HRel K S3 w' H ∧ RepW K w' x (.ref p) := by
  unfold finC at e
  cases cell with
  | true =>
    simp only at e
    split at e
    · cases e
      exact ⟨w, h0, hr, p, hp, rfl⟩
    · cases e
  | false =>
    simp only at e
    split at e
    · rename_i c hc
      split at e
      · rename_i pp hv
        cases e
        obtain ⟨w', h1, h2, h3, h4⟩ := hr.frozen hc hv hp
        have t := h1.take D
        rw [List.take_set_of_le (Nat.le_refl _)] at t
        exact ⟨_, (h0.trans h2).take hD, t, h4⟩
      · cases e
    · cases e

theorem noneLt {α : Type} {l : List α} {n : Nat} {x : α} (h : l[n]? = some x) : n < l.length := (List.getElem?_eq_some_iff.mp h).1
theorem at_pre {w w' : Wd} {n : Nat} {p : Addr} (l : LeW w w') (h : w.ρ[n]? = some p) : w'.ρ[n]? = some p := by
  obtain ⟨t, ht⟩ := l.1
  rw [← ht, List.getElem?_append_left (noneLt h)]
  exact h
theorem c_dic {cell : Bool} {l : E} {ks : List (Option Expr)} {vs : List Expr} (h : PPs X pos ks vs (kTs X.K C l)) (hall : ks.all (·.isSome) = true) (hlen : ks.length = vs.length) (h15 : ks.length ≤ 15) (hn : ks = [] → vs = [] ∧ l = .nil) : PE X (.Dict ks vs pos) (tE X.K C (.dic cell l)) := by
  have main : ∀ {σ : L2.St} {H : Hp} {Q : VK}, tE X.K C (.dic cell l) σ H Q → tDisp (kTs X.K C l) σ H Q := fun {σ H Q} q p hp => by
    obtain ⟨w, env, S, hr, he, q⟩ := q
    simp only [evE] at q
    have lw : LeW w ⟨w.ρ ++ [p], w.F⟩ := ⟨List.prefix_append _ _, LeL.refl _⟩
    obtain ⟨hr1, _⟩ := hr.newC (o := .dK []) (c := .dct []) hp rfl ⟨[], upd_same, .nil, Nat.zero_le _⟩
    have hpD : (w.ρ ++ [p])[S.length]? = some p := by rw [← hr.len]; simp
    have q' := (q.step0 (rel := relKW X.K))
    refine k_run (Q := fun _ _ => True) l hr1 (he.mono lw) (?_ : RdG X.K (relKW X.K) ⟨w.ρ ++ [p], w.F⟩ _ _)
    cases hE : evK C l env (S ++ [.dct []]) with
    | ex _ _ _ => rw [hE] at q; exact q.elim
    | no => rw [hE] at q; exact q.elim
    | ok q0 =>
      rw [hE] at q
      obtain ⟨xs, S2⟩ := q0
      intro w2 ps H2 l2 hr2 r2
      obtain ⟨kvs, rfl, r2⟩ := r2
      have hp2 := at_pre l2 hpD
      have q2 : RdG X.K (RepW X.K) w (match S2[S.length]? with
        | some (.dct []) => if 15 < xs.length then .no else (write S.length (.dct (xs.foldl (fun acc z => setK acc z.1 z.2) [])) S2).bind fun S2 => finC cell S.length S2
        | _ => .no) Q := q
      split at q2
      · rename_i hc
        split at q2
        · exact q2.elim
        · rename_i h15'
          rcases hr2.cell _ _ p hc hp2 with z | ⟨hF, kv0, ho, rr, _⟩
          · cases z
          · cases rr
            have hk : kvs.length ≤ 15 := by
              rw [← Paired.length r2]
              show xs.length ≤ 15
              omega
            refine ⟨ho, kvs, rfl, hk, ?_⟩
            obtain ⟨q0, e0⟩ := q2.pure_ok
            obtain ⟨S3, e3, e4⟩ := bind_ok e0
            rw [e0] at q2
            unfold write at e3
            split at e3
            · rename_i hb
              cases e3
              have hz : (mergeK [] kvs).length ≤ sizeLine := by
                have h1 := mergeK_le kvs (vs := [])
                have h2 := lim_le
                have h3 : 15 ≤ lim := by decide
                rw [List.length_nil] at h1
                omega
              have hr3 := hr2.write (o := .dK (mergeK [] kvs)) hp2 hF hb ⟨mergeK [] kvs, upd_same, RepWk.merge r2 .nil, hz⟩
              obtain ⟨x, S4⟩ := q0
              obtain ⟨w4, l4, hr4, r4⟩ := fin_snd (w0 := w) hr3 hp2 (lw.trans l2) (Nat.le_of_eq hr.len) e4
              exact q2 w4 _ _ l4 hr4 r4
            · cases e3
      · exact q2.elim
  cases ks with
  | nil =>
    obtain ⟨rfl, rfl⟩ := hn rfl
    refine PE.weak pe_dnewK fun σ H Q q => ?_
    intro p hp
    have z := main q p hp
    obtain ⟨_, kvs, e1, _, e3⟩ := z
    cases kvs with
    | nil =>
      have e4 : upd (upd H p (.dK [])) p (.dK (mergeK [] [])) = upd H p (.dK []) := by rw [upd_upd]; rfl
      rw [e4] at e3
      exact e3
    | cons a b => cases e1
  | cons a as => exact PE.weak (pe_disp h hall hlen (List.cons_ne_nil _ _) h15) fun σ H Q q => main q

/-! ### built-in methods -/
theorem few_ok {e : Expr} {es : List Expr} {cpos : Pos} {env : PySem.Env} (hs : (e :: es).all notStar = true) (hn : (e :: es).length < 29) :
    ((backTo cpos (starEach (e :: es) env)).all (fun x => !x.1) && (backToKw cpos (keywordEach [] env)).all (fun x => x.1.isSome) && decide ((e :: es).length + ([] : List Keyword).length + (if ([] : List Keyword).isEmpty then 0 else 1) < 30)) = true := by
  have e1 : ∀ {l : List Expr}, l.all notStar = true → (backTo cpos (starEach l env)).all (fun x => !x.1) = true := fun {l} h => by
    induction l with
    | nil => rfl
    | cons a l ih =>
      simp only [List.all_cons, Bool.and_eq_true] at h
      rw [starEach_ns h.1]
      show (true && (backTo cpos (starEach l env)).all (fun x => !x.1)) = true
      rw [ih h.2]
      rfl
  rw [e1 hs]
  show (true && true && decide ((e :: es).length + 0 + 0 < 30)) = true
  exact decide_eq_true (by omega)
theorem bm_base {T name : Str} {id TT : String} {r : V → List V → Hp → VK → Prop} {a l : E} {x e : Expr} {es : List Expr} {apos : Pos} (pa : PlainAttrs TT) (slot : Slot TT name id) (hty : typeOf (.builtin id) = pure (.type "method_descriptor")) (hm : MtR X id r)
    (hb : notSuper x = true) (hs : (e :: es).all notStar = true) (hn : (e :: es).length < 29) (hline : (apos.endLine == pos.line) = true) (ha : PE X x (tE X.K C a)) (hA : PA X (e :: es) (tAm X.K C l)) {m : BM}
    (snd : ∀ {w : Wd} {H : Hp} {S : Cells} {x : W} {v : V}, HRel X.K S w H → RepW X.K w x v → bmTy m x S = true → tyV X.K TT v H)
    (op : ∀ {w : Wd} {H : Hp} {S : Cells} {x : W} {v : V} {ws : List W} {vs : List V} {Q : VK}, HRel X.K S w H → RepW X.K w x v → RepWs X.K w ws vs → RdG X.K (RepW X.K) w (bmOp m x ws S) Q → r v vs H Q) :
    PE X (.Call (.Attribute x name apos) (e :: es) [] pos) (tE X.K C (.bm m a l)) := by
  have hs' := hs
  simp only [List.all_cons, Bool.and_eq_true] at hs'
  refine PE.weak (pe_bm pa slot hty hm ha hA (attrBase_ns hb) (few_ok hs hn) hline (starEach_ns hs'.1) (backTo_ns hs'.2)) fun σ H Q q => ?_
  obtain ⟨w, env, S, hr, he, q⟩ := q
  simp only [evE] at q
  refine ⟨w, env, S, hr, he, (q.step (rel := RepW X.K)).imp fun v H1 h1 => ?_⟩
  obtain ⟨w1, x1, S1, l1, hr1, r1, q1⟩ := h1
  simp only at q1
  split at q1
  · rename_i ht
    refine ⟨snd hr1 r1 ht, w1, env, S1, hr1, he.mono l1, (q1.step (rel := RepWs X.K)).imp fun vs H2 h2 => ?_⟩
    obtain ⟨w2, ws, S2, l2, hr2, r2, q2⟩ := h2
    exact op hr2 (r1.mono l2) r2 q2
  · exact q1.elim
theorem lst_ty {m : BM} {w : Wd} {H : Hp} {S : Cells} {x : W} {v : V} (hm : m = .append ∨ m = .extend ∨ m = .pop0) (hr : HRel X.K S w H) (r : RepW X.K w x v) (h : bmTy m x S = true) : tyV X.K "list" v H := by
  cases x with
  | v p => rcases hm with rfl | rfl | rfl <;> (simp [bmTy] at h)
  | c n =>
    obtain ⟨ad, hn, rfl⟩ := r
    have h' : bmTy.isLst S[n]? = true := by rcases hm with rfl | rfl | rfl <;> exact h
    unfold bmTy.isLst at h'
    split at h'
    · rename_i xs hS
      rcases hr.cell n _ ad hS hn with z | ⟨_, vs, ho, _⟩
      · cases z
      · exact .inl ⟨rfl, vs, SqL.of ho⟩
    · cases h'
theorem str_ty {m : BM} {w : Wd} {H : Hp} {S : Cells} {x : W} {v : V} (hm : m = .join ∨ m = .split) (r : RepW X.K w x v) (h : bmTy m x S = true) : tyV X.K "str" v H := by
  cases x with
  | c p => rcases hm with rfl | rfl <;> (simp [bmTy] at h)
  | v p =>
    cases p with
    | str s =>
      have r' : RepP X.K w.F (.str s) v := r
      unfold RepP at r'
      subst r'
      rfl
    | _ => rcases hm with rfl | rfl <;> (simp [bmTy] at h)
theorem append_op {w : Wd} {H : Hp} {S : Cells} {x : W} {v : V} {ws : List W} {vs : List V} {Q : VK} (hr : HRel X.K S w H) (r : RepW X.K w x v) (rs : RepWs X.K w ws vs) (q : RdG X.K (RepW X.K) w (bmOp .append x ws S) Q) : rAppend v vs H Q := by
  have q' : RdG X.K (RepW X.K) w (appendOp x ws S) Q := q
  unfold appendOp at q'
  split at q'
  · rename_i n w0
    obtain ⟨u, rfl, ru⟩ := one_of rs
    obtain ⟨ad, hn, rfl⟩ := r
    unfold pushC at q'
    split at q'
    · rename_i acc hS
      split at q'
      · rename_i hl
        unfold write at q'
        split at q'
        · rename_i hb
          rcases hr.cell n _ ad hS hn with z | ⟨hF, xs, ho, rr, z⟩
          · cases z
          · have hl2 : xs.length < lim := by rw [← Paired.length rr]; exact hl
            have hz : (xs ++ [u]).length ≤ sizeLine := by
              rw [List.length_append]
              have := lim_le
              show xs.length + 1 ≤ sizeLine
              omega
            refine ⟨ad, xs, u, rfl, rfl, ho, Nat.lt_of_lt_of_le hl2 lim_le, ?_⟩
            have hr2 := hr.write (o := .lst (xs ++ [u])) hn hF hb ⟨xs ++ [u], upd_same, app_rep rr (.cons ru .nil), hz⟩
            exact q' w _ _ (LeW.refl _) hr2 (show RepP X.K w.F .non _ from P_non)
        · exact q'.elim
      · exact q'.elim
    · exact q'.elim
  · exact q'.elim
theorem extend_op {w : Wd} {H : Hp} {S : Cells} {x : W} {v : V} {ws : List W} {vs : List V} {Q : VK} (hr : HRel X.K S w H) (r : RepW X.K w x v) (rs : RepWs X.K w ws vs) (q : RdG X.K (RepW X.K) w (bmOp .extend x ws S) Q) : rExtend v vs H Q := by
  have q' : RdG X.K (RepW X.K) w (extendOp x ws S) Q := q
  unfold extendOp at q'
  split at q'
  · rename_i n w0
    obtain ⟨u, rfl, ru⟩ := one_of rs
    obtain ⟨ad, hn, rfl⟩ := r
    split at q'
    · rename_i acc ps hS hv
      split at q'
      · rename_i hl
        unfold write at q'
        split at q'
        · rename_i hb
          rcases hr.cell n _ ad hS hn with z | ⟨hF, xs, ho, rr, z⟩
          · cases z
          · obtain ⟨bd, zs, rfl, hz0, r0, z0⟩ := hr.view hv ru
            have e1 := Paired.length rr
            have e2 := r0.len
            have hz : (xs ++ zs).length ≤ sizeLine := by
              rw [List.length_append]
              have := lim_le
              omega
            refine ⟨ad, bd, xs, zs, rfl, rfl, ho, hz0, by rw [← List.length_append]; exact hz, ?_⟩
            have hr2 := hr.write (o := .lst (xs ++ zs)) hn hF hb ⟨xs ++ zs, upd_same, app_rep rr (rep_map r0), hz⟩
            exact q' w _ _ (LeW.refl _) hr2 (show RepP X.K w.F .non _ from P_non)
        · exact q'.elim
      · exact q'.elim
    · exact q'.elim
  · exact q'.elim
theorem erase_rep {K : PySem.W.Frag} {w : Wd} : ∀ {xs : List W} {vs : List V} (j : Nat), RepWs K w xs vs → RepWs K w (xs.eraseIdx j) (vs.eraseIdx j)
  | _, _, _, .nil => .nil
  | _, _, 0, .cons _ t => t
  | _, _, j + 1, .cons r t => .cons r (erase_rep j t)
theorem get_rep {K : PySem.W.Frag} {w : Wd} : ∀ {xs : List W} {vs : List V} {j : Nat} {p : W}, RepWs K w xs vs → xs[j]? = some p → ∃ z, vs[j]? = some z ∧ RepW K w p z
  | _, _, _, _, .nil, e => by simp at e
  | _, _, 0, _, .cons r t, e => by
    simp at e
    subst e
    exact ⟨_, rfl, r⟩
  | _, _, j + 1, p, .cons r t, e => get_rep (j := j) t (by simpa using e)
theorem pop_op {w : Wd} {H : Hp} {S : Cells} {x : W} {v : V} {ws : List W} {vs : List V} {Q : VK} (hr : HRel X.K S w H) (r : RepW X.K w x v) (rs : RepWs X.K w ws vs) (q : RdG X.K (RepW X.K) w (bmOp .pop0 x ws S) Q) : rPopAt v vs H Q := by
  have q' : RdG X.K (RepW X.K) w (popOp x ws S) Q := q
  unfold popOp at q'
  split at q'
  · rename_i n i
    obtain ⟨u, rfl, ru⟩ := one_of rs
    have ru' : RepP X.K w.F (.int i) u := ru
    unfold RepP at ru'
    subst ru'
    obtain ⟨ad, hn, rfl⟩ := r
    split at q'
    · rename_i acc hS
      split at q'
      · rename_i j hj
        split at q'
        · rename_i w0 hw0
          unfold write at q'
          split at q'
          · rename_i hb
            rcases hr.cell n _ ad hS hn with z | ⟨hF, xs, ho, rr, z⟩
            · cases z
            · have e1 := Paired.length rr
              rw [e1] at hj
              obtain ⟨h1, h2, h3, h4⟩ := ixN_seq hj
              obtain ⟨y, hy, ry⟩ := get_rep rr hw0
              have hz : (xs.eraseIdx j).length ≤ sizeLine := Nat.le_trans (List.length_eraseIdx_le _ _) z
              have big : (xs.length : Int) < 2 ^ 63 := by
                have := line63
                omega
              refine ⟨ad, xs, i, j, y, rfl, rfl, ho, by omega, by omega, h1, hy, ?_⟩
              have hr2 := hr.write (o := .lst (xs.eraseIdx j)) hn hF hb ⟨_, upd_same, erase_rep j rr, hz⟩
              exact q' w _ _ (LeW.refl _) hr2 ry
          · exact q'.elim
        · exact q'.elim
      · exact q'.elim
    · exact q'.elim
  · exact q'.elim
def rJoin (X : Cx) : V → List V → Hp → VK → Prop := fun x xs H Q => ∃ a p, ∃ ys : List Str, x = .str a ∧ xs = [.ref p] ∧ (SqL X.K H p (ys.map V.str) ∨ SqT X.K H p (ys.map V.str)) ∧ (ys.map (·.length)).sum + ys.length * a.length ≤ 16777216 ∧ Q (.str (Txt.join a ys)) H
theorem join_op {w : Wd} {H : Hp} {S : Cells} {x : W} {v : V} {ws : List W} {vs : List V} {Q : VK} (hr : HRel X.K S w H) (r : RepW X.K w x v) (rs : RepWs X.K w ws vs) (q : RdG X.K (RepW X.K) w (bmOp .join x ws S) Q) : rJoin X v vs H Q := by
  have q' : RdG X.K (RepW X.K) w (joinOp x ws S) Q := q
  unfold joinOp at q'
  split at q'
  · rename_i a w0
    obtain ⟨u, rfl, ru⟩ := one_of rs
    have r' : RepP X.K w.F (.str a) v := r
    unfold RepP at r'
    subst r'
    split at q'
    · rename_i l hv
      split at q'
      · rename_i ys hy
        split at q'
        · rename_i hl
          obtain ⟨ad, us, rfl, ho, r0, z⟩ := hr.view hv ru
          cases strs_rep r0 hy
          exact ⟨a, ad, ys, rfl, rfl, .inl (SqL.of ho), Nat.le_trans hl (by decide), RdG.val q' hr P_str⟩
        · exact q'.elim
      · exact q'.elim
    · exact q'.elim
  · exact q'.elim
def rSplit : V → List V → Hp → VK → Prop := fun x xs H Q => ∃ a b, x = .str a ∧ xs = [.str b] ∧ (b.length == 0) = false ∧ a.length + 2 ≤ sizeLine ∧ rNewStrs (Txt.split a b) H Q
theorem rep_strs {K : PySem.W.Frag} {F : Hp} : ∀ {ys : List Str}, RepPs K F (ys.map .str) (ys.map V.str)
  | [] => by simp [RepPs]
  | y :: ys => by
    show RepPs K F (.str y :: ys.map .str) (V.str y :: ys.map V.str)
    unfold RepPs
    exact ⟨_, _, rfl, P_str, rep_strs⟩
theorem split_op {w : Wd} {H : Hp} {S : Cells} {x : W} {v : V} {ws : List W} {vs : List V} {Q : VK} (hr : HRel X.K S w H) (r : RepW X.K w x v) (rs : RepWs X.K w ws vs) (q : RdG X.K (RepW X.K) w (bmOp .split x ws S) Q) : rSplit v vs H Q := by
  have q' : RdG X.K (RepW X.K) w (splitOp x ws S) Q := q
  unfold splitOp at q'
  split at q'
  · rename_i a b
    obtain ⟨u, rfl, ru⟩ := one_of rs
    have r' : RepP X.K w.F (.str a) v := r
    unfold RepP at r'
    subst r'
    have ru' : RepP X.K w.F (.str b) u := ru
    unfold RepP at ru'
    subst ru'
    split at q'
    · rename_i hl
      refine ⟨a, b, rfl, rfl, hl.1, Nat.le_trans hl.2 lim_le, fun p hp => ?_⟩
      have hz : ((Txt.split a b).map V.str).length ≤ sizeLine := by
        rw [List.length_map]
        exact Nat.le_trans (PyProof.Rows.split_le a b) (Nat.le_trans hl.2 lim_le)
      obtain ⟨w', lw, hr', rp⟩ := new_lst hr hp rep_strs hz
      exact q' w' _ _ lw hr' rp
    · exact q'.elim
  · exact q'.elim
theorem c_bm {m : BM} {a l : E} {x e : Expr} {es : List Expr} {apos : Pos} (hm : bmOk m = true) (hb : notSuper x = true) (hs : (e :: es).all notStar = true) (hn : (e :: es).length < 29) (hline : (apos.endLine == pos.line) = true) (ha : PE X x (tE X.K C a)) (hA : PA X (e :: es) (tAm X.K C l)) :
    PE X (.Call (.Attribute x (bmName m) apos) (e :: es) [] pos) (tE X.K C (.bm m a l)) := by
  cases m with
  | append => exact bm_base (T := "") PySem.F.plainAttrs_list PySem.F.slot_list_append PySem.F.type_list_append mt_append hb hs hn hline ha hA (fun hr r h => lst_ty (.inl rfl) hr r h) (fun hr r rs q => append_op hr r rs q)
  | extend => exact bm_base (T := "") PySem.F.plainAttrs_list PySem.F.slot_list_extend PySem.F.type_list_extend mt_extend hb hs hn hline ha hA (fun hr r h => lst_ty (.inr (.inl rfl)) hr r h) (fun hr r rs q => extend_op hr r rs q)
  | pop0 => exact bm_base (T := "") PySem.F.plainAttrs_list PySem.F.slot_list_pop PySem.F.type_list_pop mt_popAt hb hs hn hline ha hA (fun hr r h => lst_ty (.inr (.inr rfl)) hr r h) (fun hr r rs q => pop_op hr r rs q)
  | join => exact bm_base (T := "") PySem.F.plainAttrs_str PySem.F.slot_str_join PySem.F.type_str_join mt_join hb hs hn hline ha hA (fun hr r h => str_ty (.inl rfl) r h) (fun hr r rs q => join_op hr r rs q)
  | split => exact bm_base (T := "") PySem.F.plainAttrs_str PySem.F.slot_str_split PySem.F.type_str_split mt_split hb hs hn hline ha hA (fun hr r h => str_ty (.inr rfl) r h) (fun hr r rs q => split_op hr r rs q)
  | _ => cases hm
end
end LS

set_option Elab.async false
set_option linter.all false
set_option maxRecDepth 100000
set_option maxHeartbeats 1000000
/-! LS11: what is walked, targets, loops, comprehensions. -/
namespace LS
open PySem PySem.Spec PyProof.Rows L2

/-- an iterator as the small one says -/
def ItemAt (K : PySem.W.Frag) (J : It) (w' : Wd) (S' : Cells) (H' : Hp) (i : Nat) (x : W) : Prop := J.go i H' ∧ ∀ v H2, J.yld i H' v H2 → ∃ w2, LeW w' w2 ∧ HRel K S' w2 H2 ∧ RepW K w2 x v
def ItOk (K : PySem.W.Frag) (w : Wd) (I : Iter) (J : It) : Prop := match I with
  | .st xs => ∀ (w' : Wd) (S' : Cells) (H' : Hp) (i : Nat), LeW w w' → HRel K S' w' H' → (∀ x, xs[i]? = some x → ItemAt K J w' S' H' i x) ∧ (xs.length = i → J.stop i H')
  | .cl n => ∀ (w' : Wd) (S' : Cells) (H' : Hp) (i : Nat) (xs : List W), LeW w w' → HRel K S' w' H' → S'[n]? = some (.lst xs) → (∀ x, xs[i]? = some x → ItemAt K J w' S' H' i x) ∧ (xs[i]? = none → J.stop i H')
theorem ItOk.mono {K : PySem.W.Frag} {w w1 : Wd} {I : Iter} {J : It} (h : ItOk K w I J) (l : LeW w w1) : ItOk K w1 I J := by
  cases I with
  | st xs => exact fun w' S' H' i a b => h w' S' H' i (l.trans a) b
  | cl n => exact fun w' S' H' i xs a b c => h w' S' H' i xs (l.trans a) b c
def tIm (K : PySem.W.Frag) (C : Cn) (e : E) : TI := fun σ H R => ∃ w env S, HRel K S w H ∧ EnvRel K w env σ ∧ RdG K (ItOk K) w (evI C e env S) R
theorem PI.pick {X : Cx} {tg e : Expr} {t : TI} (h : ∀ σ H Q, t σ H Q → ∃ t', PI X tg e t' ∧ t' σ H Q) : PI X tg e t := ⟨fun pins s σ H Q I q => by
  obtain ⟨t', p, q'⟩ := h σ H Q q
  exact p.run pins s σ H Q I q'⟩
/-- what has come is locked from now on -/
def Lk (Q : VK) (v : V) (H : Hp) : Prop := Q v H ∨ ∃ d u, H d = some u ∧ Mut (some u) ∧ ∀ od, Q v (upd H d (.frz od u))
def tLk (t : TE) : TE := fun σ H Q => t σ H (Lk Q)
theorem PE.lk {X : Cx} {e : Expr} {t : TE} (h : PE X e t) : PE X e (tLk t) := ⟨fun pins s σ H Q I hw => by
  refine thn (h.run pins s σ H _ I hw) fun v s1 ⟨x, H1, I1, r, q⟩ => ?_
  rcases q with q | ⟨d, u, hd, mu, q⟩
  · exact ⟨x, H1, I1, r, q⟩
  · obtain ⟨od, I2⟩ := I1.lock hd mu
    exact ⟨x, _, I2, r, q od⟩⟩
theorem core_dK {o : HO} {k : List (Key × V)} (h : coreO o = .dK k) : o = .dK k ∨ ∃ ob, o = .frz ob (.dK k) := by
  unfold coreO at h
  split at h
  · cases h
    exact .inr ⟨_, rfl⟩
  · exact .inl h
theorem frz_keep {w w' : Wd} {d : Addr} {ob : Obj} {k : List (Key × V)} (l : LeW w w') (h : w.F d = some (.frz ob (.dK k))) : w'.F d = some (.frz ob (.dK k)) := by
  rcases l.2 d _ h with h | ⟨_, _, e, _⟩
  · exact h
  · cases e
theorem kP_rep {K : PySem.W.Frag} {F : Hp} (k : Key) : RepP K F (kP k) (kV k) := by
  cases k with
  | inl i => exact P_int
  | inr s => exact P_str
theorem RepPk.at {K : PySem.W.Frag} {F : Hp} : ∀ {xs : List (Key × P)} {vs : List (Key × V)} {i : Nat} {k : Key} {v : V}, RepPk K F xs vs → vs[i]? = some (k, v) → ∃ p, xs[i]? = some (k, p) ∧ RepP K F p v
  | [], vs, i, k, v, r, e => by
    unfold RepPk at r
    subst r
    simp at e
  | (k0, p0) :: xs, vs, i, k, v, r, e => by
    unfold RepPk at r
    obtain ⟨v0, t, rfl, h1, h2⟩ := r
    cases i with
    | zero =>
      simp at e
      obtain ⟨rfl, rfl⟩ := e
      exact ⟨p0, rfl, h1⟩
    | succ i =>
      obtain ⟨p, e1, e2⟩ := RepPk.at (i := i) h2 (by simpa using e)
      exact ⟨p, by simpa using e1, e2⟩
theorem RepP.dct_inv {K : PySem.W.Frag} {F : Hp} {kvs : List (Key × P)} {v : V} (h : RepP K F (.dct kvs) v) : ∃ a kvs', v = .ref a ∧ (F a = some (.dK kvs') ∨ ∃ ob, F a = some (.frz ob (.dK kvs'))) ∧ RepPk K F kvs kvs' := by
  unfold RepP at h
  obtain ⟨a, kvs', o, rfl, f, c, r, z⟩ := h
  refine ⟨a, kvs', rfl, ?_, r⟩
  rcases core_dK c with rfl | ⟨ob, rfl⟩
  · exact .inl f
  · exact .inr ⟨ob, f⟩
/-- a dict come, locked if it was not -/
theorem lk_dct {K : PySem.W.Frag} {S : Cells} {w : Wd} {H : Hp} {kvs : List (Key × P)} {v : V} {Q : VK} (hr : HRel K S w H) (r : RepP K w.F (.dct kvs) v)
    (q : ∀ w' H' d od kvs', LeW w w' → HRel K S w' H' → v = .ref d → w'.F d = some (.frz od (.dK kvs')) → RepPk K w'.F kvs kvs' → Q v H') : Lk Q v H := by
  obtain ⟨a, kvs', rfl, f, rk⟩ := r.dct_inv
  rcases f with f | ⟨ob, f⟩
  · refine .inr ⟨a, _, hr.le a _ f, True.intro, fun od => ?_⟩
    obtain ⟨hr', lw⟩ := hr.lock (ob := od) f
    exact q _ _ a od kvs' lw hr' rfl upd_same (RepPk.mono lw.2 _ rk)
  · exact .inl (q w H a ob kvs' (LeW.refl _) hr rfl f rk)

section
variable {X : Cx} {C : Cn} {ct : Ct} {k : Nat} {pos : Pos} {tg : Expr}
theorem it_list {K : PySem.W.Frag} {w : Wd} {a : Addr} {vs : List V} {xs : List P} (h : w.F a = some (.lst vs)) (r : RepPs K w.F xs vs) : ItOk K w (.st (xs.map .v)) (Itl K a) := by
  intro w' S' H' i lw hr
  have h' : w'.F a = some (.lst vs) := by
    rcases lw.2 a _ h with h | ⟨_, _, e, _⟩
    · exact h
    · cases e
  have hH : SqL K H' a vs := SqL.of (hr.le a _ h')
  refine ⟨fun x e => ?_, fun e => ⟨vs, hH, ?_⟩⟩
  · rw [List.getElem?_map] at e
    cases hx : xs[i]? with
    | none => rw [hx] at e; cases e
    | some p =>
      rw [hx] at e
      cases e
      obtain ⟨v, hv, rv⟩ := RepPs.get r hx
      refine ⟨⟨vs, v, hH, hv⟩, fun v2 H2 y => ?_⟩
      obtain ⟨rfl, y⟩ := y
      have := y vs hH
      rw [hv] at this
      cases this
      exact ⟨w', LeW.refl _, hr, RepP.mono lw.2 _ rv⟩
  · rw [← r.len]
    simpa using Nat.le_of_eq e
theorem it_tup {K : PySem.W.Frag} {w : Wd} {a : Addr} {vs : List V} {xs : List P} (h : SqT K w.F a vs) (r : RepPs K w.F xs vs) : ItOk K w (.st (xs.map .v)) (Itt K a) := by
  intro w' S' H' i lw hr
  have hH : SqT K H' a vs := hr.le.sqT (lw.2.c.sqT h)
  refine ⟨fun x e => ?_, fun e => ⟨vs, hH, ?_⟩⟩
  · rw [List.getElem?_map] at e
    cases hx : xs[i]? with
    | none => rw [hx] at e; cases e
    | some p =>
      rw [hx] at e
      cases e
      obtain ⟨v, hv, rv⟩ := RepPs.get r hx
      refine ⟨⟨vs, v, hH, hv⟩, fun v2 H2 y => ?_⟩
      obtain ⟨rfl, y⟩ := y
      have := y vs hH
      rw [hv] at this
      cases this
      exact ⟨w', LeW.refl _, hr, RepP.mono lw.2 _ rv⟩
  · rw [← r.len]
    simpa using Nat.le_of_eq e
theorem it_cell {K : PySem.W.Frag} {w : Wd} {a : Addr} {n : Nat} (h : w.ρ[n]? = some a) : ItOk K w (.cl n) (Itl K a) := by
  intro w' S' H' i xs lw hr hS
  have ha := at_pre lw h
  rcases hr.cell n _ a hS ha with z | ⟨_, vs, ho, rr, _⟩
  · cases z
  · have hH : SqL K H' a vs := SqL.of ho
    refine ⟨fun x e => ?_, fun e => ⟨vs, hH, ?_⟩⟩
    · obtain ⟨v, hv, rv⟩ := get_rep rr e
      refine ⟨⟨vs, v, hH, hv⟩, fun v2 H2 y => ?_⟩
      obtain ⟨rfl, y⟩ := y
      have := y vs hH
      rw [hv] at this
      cases this
      exact ⟨w', LeW.refl _, hr, rv⟩
    · rw [← Paired.length rr]
      exact List.getElem?_eq_none_iff.mp e
theorem it_str {K : PySem.W.Frag} {w : Wd} {s : Str} : ItOk K w (.st (s.cps.toList.map fun c => .v (.str ⟨#[c]⟩))) (Its s) := by
  intro w' S' H' i lw hr
  refine ⟨fun x e => ?_, fun e => ?_⟩
  · rw [List.getElem?_map] at e
    cases hx : s.cps.toList[i]? with
    | none => rw [hx] at e; cases e
    | some c =>
      rw [hx] at e
      cases e
      have hi : i < s.cps.size := by
        have := (List.getElem?_eq_some_iff.mp hx).1
        simpa using this
      refine ⟨hi, fun v H2 y => ?_⟩
      obtain ⟨rfl, c', e1, rfl⟩ := y
      have e2 : some c' = some c := by
        rw [← e1, ← hx]
        simp
      cases e2
      exact ⟨w', LeW.refl _, hr, (P_str : RepP K w'.F (.str _) _)⟩
  · show s.cps.size ≤ i
    simpa using Nat.le_of_eq e
theorem it_keys {K : PySem.W.Frag} {w : Wd} {d : Addr} {od : Obj} {kvs : List (Key × P)} {kvs' : List (Key × V)} (h : w.F d = some (.frz od (.dK kvs'))) (r : RepPk K w.F kvs kvs') : ItOk K w (.st (kvs.map fun q => .v (kP q.1))) (Itk d od kvs') := by
  intro w' S' H' i lw hr
  have hH := hr.le d _ (frz_keep lw h)
  refine ⟨fun x e => ?_, fun e => ⟨hH, ?_⟩⟩
  · rw [List.getElem?_map] at e
    cases hx : kvs[i]? with
    | none => rw [hx] at e; cases e
    | some q =>
      rw [hx] at e
      cases e
      have hi : i < kvs'.length := by rw [← r.len]; exact noneLt hx
      refine ⟨⟨hH, hi⟩, fun v H2 y => ?_⟩
      obtain ⟨rfl, k, z, e1, rfl⟩ := y
      obtain ⟨p, e2, e3⟩ := r.at e1
      rw [hx] at e2
      cases e2
      exact ⟨w', LeW.refl _, hr, kP_rep k⟩
  · rw [← r.len]
    simpa using Nat.le_of_eq e
theorem it_vals {K : PySem.W.Frag} {w : Wd} {d : Addr} {od : Obj} {kvs : List (Key × P)} {kvs' : List (Key × V)} (h : w.F d = some (.frz od (.dK kvs'))) (r : RepPk K w.F kvs kvs') : ItOk K w (.st (kvs.map fun q => .v q.2)) (Itd d od kvs') := by
  intro w' S' H' i lw hr
  have hH := hr.le d _ (frz_keep lw h)
  refine ⟨fun x e => ?_, fun e => ⟨hH, ?_⟩⟩
  · rw [List.getElem?_map] at e
    cases hx : kvs[i]? with
    | none => rw [hx] at e; cases e
    | some q =>
      rw [hx] at e
      cases e
      have hi : i < kvs'.length := by rw [← r.len]; exact noneLt hx
      refine ⟨⟨hH, hi⟩, fun v H2 y => ?_⟩
      obtain ⟨rfl, k, e1⟩ := y
      obtain ⟨p, e2, e3⟩ := r.at e1
      rw [hx] at e2
      cases e2
      exact ⟨w', LeW.refl _, hr, RepP.mono lw.2 _ e3⟩
  · rw [← r.len]
    simpa using Nat.le_of_eq e
theorem it_items {K : PySem.W.Frag} {w : Wd} {d : Addr} {od : Obj} {kvs : List (Key × P)} {kvs' : List (Key × V)} (h : w.F d = some (.frz od (.dK kvs'))) (r : RepPk K w.F kvs kvs') : ItOk K w (.st (kvs.map fun q => .v (.tup [kP q.1, q.2]))) (Iti d od kvs') := by
  intro w' S' H' i lw hr
  have hH := hr.le d _ (frz_keep lw h)
  refine ⟨fun x e => ?_, fun e => ⟨hH, ?_⟩⟩
  · rw [List.getElem?_map] at e
    cases hx : kvs[i]? with
    | none => rw [hx] at e; cases e
    | some q =>
      rw [hx] at e
      cases e
      have hi : i < kvs'.length := by rw [← r.len]; exact noneLt hx
      refine ⟨⟨hH, hi⟩, fun v H2 y => ?_⟩
      obtain ⟨T, k, z, e1, rfl, hT, rfl⟩ := y
      obtain ⟨p, e2, e3⟩ := r.at e1
      rw [hx] at e2
      cases e2
      obtain ⟨w2, l2, hr2, r2⟩ := new_tup hr hT (xs := [kP k, p]) (vs := [kV k, z]) (by
        unfold RepPs
        refine ⟨_, _, rfl, kP_rep k, ?_⟩
        unfold RepPs
        refine ⟨_, _, rfl, RepP.mono lw.2 _ e3, ?_⟩
        unfold RepPs
        rfl) (Nat.le_trans (by decide : 2 ≤ lim) lim_le)
      exact ⟨w2, l2, hr2, r2⟩
  · rw [← r.len]
    simpa using Nat.le_of_eq e
theorem it_rng {K : PySem.W.Frag} {w : Wd} {lo : Int} {n : Nat} : ItOk K w (.st ((List.range n).map fun (i : Nat) => W.v (.int (lo + (i : Int))))) (Itr lo n) := by
  intro w' S' H' i lw hr
  refine ⟨fun x e => ?_, fun e => ?_⟩
  · rw [List.getElem?_map] at e
    cases hx : (List.range n)[i]? with
    | none => rw [hx] at e; cases e
    | some c =>
      rw [hx] at e
      cases e
      have hi : i < n := by
        have := noneLt hx
        simpa using this
      rw [List.getElem?_range hi] at hx
      cases hx
      refine ⟨hi, fun v H2 y => ?_⟩
      obtain ⟨rfl, rfl⟩ := y
      exact ⟨w', LeW.refl _, hr, (P_int : RepP K w'.F (.int _) _)⟩
  · show n ≤ i
    simpa using Nat.le_of_eq e

/-! ### what is walked -/
theorem i_it {a : E} {e : Expr} (ha : PE X e (tE X.K C a)) : PI X tg e (tIm X.K C (.it a)) := by
  refine PI.pick fun σ H R q => ?_
  obtain ⟨w, env, S, hr, he, q⟩ := q
  simp only [evI] at q
  obtain ⟨q0, e0⟩ := q.pure_ok
  obtain ⟨⟨x1, S1⟩, e1, e2⟩ := bind_ok e0
  obtain ⟨I, e3, e4⟩ := bind_ok e2
  cases e4
  rw [e0] at q
  simp only at e3
  unfold itemsOf at e3
  split at e3
  · cases e3
    refine ⟨_, pi_list ha, w, env, S, hr, he, ?_⟩
    rw [e1]
    intro w' v H' l1 hr1 r1
    have r1' : RepP X.K w'.F (.lst _) v := r1
    unfold RepP at r1'
    obtain ⟨ad, vs, rfl, ho, rs, z⟩ := r1'
    exact ⟨ad, rfl, ⟨vs, SqL.of (hr1.le _ _ ho)⟩, q w' _ _ l1 hr1 (it_list ho rs)⟩
  · cases e3
    refine ⟨_, pi_tup ha, w, env, S, hr, he, ?_⟩
    rw [e1]
    intro w' v H' l1 hr1 r1
    have r1' : RepP X.K w'.F (.tup _) v := r1
    unfold RepP at r1'
    obtain ⟨ad, vs, rfl, ho, rs, z⟩ := r1'
    exact ⟨ad, rfl, ⟨vs, hr1.le.sqT ho⟩, q w' _ _ l1 hr1 (it_tup ho rs)⟩
  · cases e3
    refine ⟨_, pi_str ha, w, env, S, hr, he, ?_⟩
    rw [e1]
    intro w' v H' l1 hr1 r1
    have r1' : RepP X.K w'.F (.str _) v := r1
    unfold RepP at r1'
    subst r1'
    exact ⟨_, rfl, q w' _ _ l1 hr1 it_str⟩
  · cases e3
    refine ⟨_, pi_keys (PE.lk ha), w, env, S, hr, he, ?_⟩
    rw [e1]
    intro w' v H' l1 hr1 r1
    refine lk_dct hr1 r1 fun w2 H2 d od kvs' l2 hr2 ev f rk => ⟨d, od, ev, .inl ⟨kvs', hr2.le _ _ f, ?_⟩⟩
    exact q w2 _ _ (l1.trans l2) hr2 (it_keys f rk)
  · split at e3
    · cases e3
      refine ⟨_, pi_list ha, w, env, S, hr, he, ?_⟩
      rw [e1]
      intro w' v H' l1 hr1 r1
      obtain ⟨ad, hn, rfl⟩ := r1
      rename_i n xs hS
      rcases hr1.cell _ _ ad hS hn with z | ⟨_, vs, ho, rr, _⟩
      · cases z
      · exact ⟨ad, rfl, ⟨vs, SqL.of ho⟩, q w' _ _ l1 hr1 (it_cell hn)⟩
    · cases e3
  · cases e3
theorem i_vals {a : E} {e : Expr} {apos : Pos} (hb : notSuper e = true) (hl : (apos.endLine == pos.line) = true) (ha : PE X e (tE X.K C a)) : PI X tg (.Call (.Attribute e "values" apos) [] [] pos) (tIm X.K C (.vals a)) := by
  refine PI.pick fun σ H R q => ⟨_, pi_values (PE.lk ha) (attrBase_ns hb) hl, ?_⟩
  obtain ⟨w, env, S, hr, he, q⟩ := q
  simp only [evI] at q
  refine ⟨w, env, S, hr, he, (q.step (rel := RepW X.K)).imp fun v H1 h1 => (?_ : Lk _ v H1)⟩
  obtain ⟨w1, x1, S1, l1, hr1, r1, q1⟩ := h1
  simp only at q1
  split at q1
  · refine lk_dct hr1 r1 fun w2 H2 d od kvs' l2 hr2 ev f rk => ⟨d, od, kvs', ev, hr2.le _ _ f, ?_⟩
    exact q1 w2 _ _ l2 hr2 (it_vals f rk)
  · exact q1.elim
theorem i_items {a : E} {e : Expr} {apos tpos : Pos} {elts : List Expr} {kk : Nat} (hb : notSuper e = true) (hl : (apos.endLine == pos.line) = true) (ha : PE X e (tE X.K C a)) : PI X (.Tuple elts kk tpos) (.Call (.Attribute e "items" apos) [] [] pos) (tIm X.K C (.items a)) := by
  refine PI.pick fun σ H R q => ⟨_, pi_items (PE.lk ha) (attrBase_ns hb) hl, ?_⟩
  obtain ⟨w, env, S, hr, he, q⟩ := q
  simp only [evI] at q
  refine ⟨w, env, S, hr, he, (q.step (rel := RepW X.K)).imp fun v H1 h1 => (?_ : Lk _ v H1)⟩
  obtain ⟨w1, x1, S1, l1, hr1, r1, q1⟩ := h1
  simp only at q1
  split at q1
  · refine lk_dct hr1 r1 fun w2 H2 d od kvs' l2 hr2 ev f rk => ⟨d, od, kvs', ev, hr2.le _ _ f, ?_⟩
    exact q1 w2 _ _ l2 hr2 (it_items f rk)
  · exact q1.elim
theorem evL_len : ∀ {l : E} {es : List Expr} {env : Env} {S : Cells} {q : List W × Cells}, chL ct l es = true → es.all notStar = true → evL C l env S = .ok q → q.1.length = es.length
  | .nil, [], env, S, q, h, hs, e => by
    simp only [evL] at e
    cases e
    rfl
  | .cons a l, x :: es, env, S, q, h, hs, e => by
    simp only [evL] at e
    obtain ⟨q1, e1, e2⟩ := bind_ok e
    obtain ⟨q2, e3, e4⟩ := bind_ok e2
    cases e4
    simp only [chL, Bool.and_eq_true] at h
    simp only [List.all_cons, Bool.and_eq_true] at hs
    have := evL_len h.2 hs.2 e3
    simp [this]
  | .star a l, .Starred x p :: es, env, S, q, h, hs, e => by
    simp only [List.all_cons, Bool.and_eq_true] at hs
    cases hs.1
theorem i_rng1 (G : Gd C ct k X) {l : E} {e : Expr} {g : Str} {p : Pos} (hg : gB ct "range" g = true) (hs : notStar e = true) (hc : chL ct l [e] = true) (hl : PA X [e] (tAm X.K C l)) : PI X tg (.Call (.Name g p) [e] [] pos) (tIm X.K C (.rng l)) := by
  obtain ⟨rfl, gl, _⟩ := gB_ok G hg
  refine PI.pick fun σ H R q => ⟨_, pi_range1 gl (G.blt "range" (by decide)) hl (by rw [starEach_ns hs]; rfl), ?_⟩
  obtain ⟨w, env, S, hr, he, q⟩ := q
  simp only [evI] at q
  obtain ⟨q0, e0⟩ := q.pure_ok
  obtain ⟨⟨x1, S1⟩, e1, e2⟩ := bind_ok e0
  obtain ⟨I, e3, e4⟩ := bind_ok e2
  cases e4
  rw [e0] at q
  have hlen : x1.length = 1 := evL_len hc (by simp [hs]) e1
  refine ⟨w, env, S, hr, he, ?_⟩
  rw [e1]
  intro w1 vs H1 l1 hr1 r1
  simp only at e3
  unfold rngOf at e3
  split at e3
  · rename_i j
    obtain ⟨u, rfl, ru⟩ := one_of r1
    have ru' : RepP X.K w1.F (.int j) u := ru
    unfold RepP at ru'
    subst ru'
    split at e3
    · rename_i hj
      cases e3
      exact ⟨j, rfl, hj.1, hj.2, q w1 _ _ l1 hr1 it_rng⟩
    · cases e3
  · simp at hlen
  · cases e3
theorem i_rng2 (G : Gd C ct k X) {l : E} {e e' : Expr} {g : Str} {p : Pos} (hg : gB ct "range" g = true) (hs : notStar e = true) (hs2 : notStar e' = true) (hc : chL ct l [e, e'] = true) (hl : PA X [e, e'] (tAm X.K C l)) : PI X tg (.Call (.Name g p) [e, e'] [] pos) (tIm X.K C (.rng l)) := by
  obtain ⟨rfl, gl, _⟩ := gB_ok G hg
  refine PI.pick fun σ H R q => ⟨_, pi_range2 gl (G.blt "range" (by decide)) hl (by rw [starEach_ns hs, starEach_ns hs2]; rfl) (by rw [starEach_ns hs2]; rfl), ?_⟩
  obtain ⟨w, env, S, hr, he, q⟩ := q
  simp only [evI] at q
  obtain ⟨q0, e0⟩ := q.pure_ok
  obtain ⟨⟨x1, S1⟩, e1, e2⟩ := bind_ok e0
  obtain ⟨I, e3, e4⟩ := bind_ok e2
  cases e4
  rw [e0] at q
  have hlen : x1.length = 2 := evL_len hc (by simp [hs, hs2]) e1
  refine ⟨w, env, S, hr, he, ?_⟩
  rw [e1]
  intro w1 vs H1 l1 hr1 r1
  simp only at e3
  unfold rngOf at e3
  split at e3
  · simp at hlen
  · rename_i a j
    cases r1 with
    | cons ra rt =>
      obtain ⟨u, rfl, ru⟩ := one_of rt
      have ru' : RepP X.K w1.F (.int j) u := ru
      unfold RepP at ru'
      subst ru'
      have ra' : RepP X.K w1.F (.int a) _ := ra
      unfold RepP at ra'
      subst ra'
      split at e3
      · rename_i hj
        cases e3
        exact ⟨a, j, rfl, hj, q w1 _ _ l1 hr1 it_rng⟩
      · cases e3
  · cases e3
end
end LS

set_option Elab.async false
set_option linter.all false
set_option maxRecDepth 100000
set_option maxHeartbeats 1000000
/-! LS12: targets, loops, comprehensions. -/
namespace LS
open PySem PySem.Spec PyProof.Rows L2

/-! ### targets -/
def tgs : List Nat → TGs
  | [] => gNil
  | i :: is => gCons (gName i) (tgs is)
def tG (K : PySem.W.Frag) : Tg → TG
  | .name i => gName i
  | .tup is => fun v σ H Q => gTup K is.length (tgs is) v σ H Q ∨ gLst K is.length (tgs is) v σ H Q
theorem wipe_set {σ : L2.St} {i : Nat} {x : Option V} : ∀ {vs : List Nat}, i ∈ vs → wipe (σ.set i x) vs = wipe σ vs
  | v :: vs, h => by
    unfold wipe
    by_cases hv : i ∈ vs
    · rw [wipe_set hv]
    · have e : i = v := by
        rcases List.mem_cons.mp h with h | h
        · exact h
        · exact absurd h hv
      subst e
      have out : ∀ {us : List Nat}, i ∉ us → wipe (σ.set i x) us = (wipe σ us).set i x := fun {us} hu => by
        induction us with
        | nil => rfl
        | cons u us ih =>
          unfold wipe
          rw [ih (fun z => hu (List.mem_cons_of_mem _ z)), List.set_comm _ _ (fun z => hu (by rw [z]; exact List.mem_cons_self))]
      rw [out hv, List.set_set]
theorem wipe_wipe {σ : L2.St} : ∀ {us vs : List Nat}, (∀ i ∈ us, i ∈ vs) → wipe (wipe σ us) vs = wipe σ vs
  | [], vs, _ => rfl
  | u :: us, vs, h => by
    show wipe ((wipe σ us).set u none) vs = _
    rw [wipe_set (h u List.mem_cons_self), wipe_wipe fun i hi => h i (List.mem_cons_of_mem _ hi)]
theorem many_snd {K : PySem.W.Frag} {w : Wd} : ∀ {is : List Nat} {ws : List W} {xs : List V} {env env' : Env} {σ : L2.St} {H : Hp} {Q : L2.St → Hp → Prop}, setMany env is ws = some env' → RepWs K w ws xs → EnvRel K w env σ →
    (∀ σ', EnvRel K w env' σ' → (∀ vs, (∀ i ∈ is, i ∈ vs) → wipe σ' vs = wipe σ vs) → Q σ' H) → tgs is xs σ H Q
  | [], [], _, env, env', σ, H, Q, e, .nil, he, q => by
    cases e
    exact ⟨rfl, q σ he fun _ _ => rfl⟩
  | i :: is, w0 :: ws, _, env, env', σ, H, Q, e, .cons r t, he, q => by
    refine ⟨_, _, rfl, ?_⟩
    show tgs is _ (σ.set i (some _)) H Q
    refine many_snd (env := env.set i (some w0)) e t (he.set r) fun σ' h1 h2 => q σ' h1 fun vs hv => ?_
    rw [h2 vs fun j hj => hv j (List.mem_cons_of_mem _ hj), wipe_set (hv i List.mem_cons_self)]
  | [], _ :: _, _, env, env', σ, H, Q, e, _, he, q => by simp [setMany] at e
  | _ :: _, [], _, env, env', σ, H, Q, e, _, he, q => by simp [setMany] at e
theorem many_len : ∀ {is : List Nat} {ws : List W} {env env' : Env}, setMany env is ws = some env' → ws.length = is.length
  | [], [], _, _, _ => rfl
  | i :: is, w0 :: ws, env, env', e => by
    have := many_len (env := env.set i (some w0)) (env' := env') (is := is) (ws := ws) e
    simp [this]
  | [], _ :: _, env, env', e => by simp [setMany] at e
  | _ :: _, [], env, env', e => by simp [setMany] at e
theorem tg_snd {K : PySem.W.Frag} {w : Wd} {tg : Tg} {x : W} {v : V} {env env' : Env} {σ : L2.St} {S : Cells} {H : Hp} {Q : L2.St → Hp → Prop} (e : setTg tg x env = some env') (hr : HRel K S w H) (r : RepW K w x v) (he : EnvRel K w env σ)
    (q : ∀ σ', EnvRel K w env' σ' → (∀ vs, (∀ i ∈ tg.slots, i ∈ vs) → wipe σ' vs = wipe σ vs) → Q σ' H) : tG K tg v σ H Q := by
  cases tg with
  | name i =>
    cases e
    exact q _ (he.set r) fun vs hv => wipe_set (hv i List.mem_cons_self)
  | tup is =>
    unfold setTg at e
    simp only at e
    split at e
    · rename_i ps
      have r' : RepP K w.F (.tup ps) v := r
      unfold RepP at r'
      obtain ⟨a, vs, rfl, ho, rs, z⟩ := r'
      refine .inl ⟨a, vs, rfl, hr.le.sqT ho, ?_, many_snd e (rep_map rs) he q⟩
      have := many_len e
      rw [List.length_map] at this
      rw [← rs.len, this]
    · rename_i ps
      have r' : RepP K w.F (.lst ps) v := r
      unfold RepP at r'
      obtain ⟨a, vs, rfl, ho, rs, z⟩ := r'
      refine .inr ⟨a, vs, rfl, SqL.of (hr.le _ _ ho), ?_, many_snd e (rep_map rs) he q⟩
      have := many_len e
      rw [List.length_map] at this
      rw [← rs.len, this]
    · cases e
section
variable {X : Cx} {C : Cn} {ct : Ct} {k : Nat} {pos : Pos} {tg : Expr}
theorem pgs_go (G : Gd C ct k X) : ∀ {is : List Nat} {es : List Expr}, tgB.go ct is es = true → PGs X es (tgs is) ∧ (assignEach es X.env).length = is.length ∧ (assignEach es X.env).findIdx? (·.1) = none
  | [], [], _ => ⟨pgs_nil, rfl, rfl⟩
  | i :: is, e :: es, h => by
    cases e with
    | Name x p =>
      simp only [tgB.go, Bool.and_eq_true] at h
      obtain ⟨h1, h2, h3⟩ := pgs_go G h.2
      obtain ⟨l1, l2⟩ := loc_ok G h.1.2
      refine ⟨pgs_cons (pg_name G.nd' (nm_ok G h.1.1) l1 l2) h1, ?_, ?_⟩
      · show (assignEach es X.env).length + 1 = _
        rw [h2]
        rfl
      · show (((false, assign (.Name x p) X.env) :: assignEach es X.env).findIdx? (·.1)) = none
        rw [List.findIdx?_cons]
        simp only [Bool.false_eq_true, if_false]
        rw [h3]
        rfl
    | _ => simp [tgB.go] at h
  | [], _ :: _, h => by simp [tgB.go] at h
  | _ :: _, [], h => by simp [tgB.go] at h
theorem pg_seq {es : List Expr} {kk n : Nat} {t : TGs} (hc : X.calm = true) (h : PGs X es t) (hn : (assignEach es X.env).length = n) (hst : (assignEach es X.env).findIdx? (·.1) = none) :
    PG X (.Tuple es kk pos) (fun v σ H Q => gTup X.K n t v σ H Q ∨ gLst X.K n t v σ H Q) := ⟨fun pins s σ H v u Q I r hw => by
  rcases hw with hw | hw
  · exact (pg_tup hc h hn hst).run pins s σ H v u Q I r hw
  · exact (pg_lst hc h hn hst).run pins s σ H v u Q I r hw⟩
theorem pg_tg (G : Gd C ct k X) {t : Tg} {e : Expr} (h : tgB ct t e = true) : PG X e (tG X.K t) := by
  cases t with
  | name i =>
    cases e with
    | Name x p =>
      simp only [tgB, Bool.and_eq_true] at h
      obtain ⟨l1, l2⟩ := loc_ok G h.2
      exact pg_name G.nd' (nm_ok G h.1) l1 l2
    | _ => simp [tgB] at h
  | tup is =>
    cases e with
    | Tuple es j p =>
      obtain ⟨h1, h2, h3⟩ := pgs_go G (show tgB.go ct is es = true from h)
      exact pg_seq G.calm h1 h2 h3
    | _ => simp [tgB] at h
end

/-! ### loops of comprehensions -/
theorem loop_snd {K : PySem.W.Frag} {fu : Nat} {turn : W → Cells → R Cells} {I : Iter} {J : It} {w1 : Wd} {S1 S2 : Cells} {H1 : Hp} {Qd : Hp → Prop} {B : V → Hp → (Hp → Prop) → Prop} (hI : ItOk K w1 I J) (hr : HRel K S1 w1 H1) (e : loopI fu turn I S1 = .ok S2)
    (hQ : ∀ w' H', LeW w1 w' → HRel K S2 w' H' → Qd H')
    (hB : ∀ w' S' x v H' S'', LeW w1 w' → HRel K S' w' H' → RepW K w' x v → turn x S' = .ok S'' → ∀ N : Hp → Prop, (∀ w'' H'', LeW w' w'' → HRel K S'' w'' H'' → N H'') → B v H' N) :
    ∃ W : Nat → Nat → Hp → Prop, (∃ m, W 0 m H1) ∧ ∀ i m H, W i m H → (J.stop i H ∧ Qd H) ∨ (J.go i H ∧ ∃ Nx : Hp → Prop, (∀ H', Nx H' → ∃ m', m' < m ∧ W (i + 1) m' H') ∧ ∀ x H', J.yld i H x H' → B x H' Nx) := by
  cases I with
  | st xs =>
    refine ⟨fun i m H => m + i = xs.length ∧ ∃ w' S', LeW w1 w' ∧ HRel K S' w' H ∧ loopL turn (xs.drop i) S' = .ok S2, ⟨xs.length, by simp, w1, S1, LeW.refl _, hr, e⟩, ?_⟩
    rintro i m H ⟨hm, w', S', lw, hr', el⟩
    obtain ⟨it, st⟩ := hI w' S' H i lw hr'
    cases hx : xs[i]? with
    | none =>
      have hi := List.getElem?_eq_none_iff.mp hx
      rw [List.drop_eq_nil_of_le hi] at el
      cases el
      exact .inl ⟨st (by omega), hQ w' H lw hr'⟩
    | some x =>
      have hi := noneLt hx
      have hd : xs.drop i = x :: xs.drop (i + 1) := by
        rw [List.drop_eq_getElem_cons hi]
        congr 1
        rw [List.getElem?_eq_getElem hi] at hx
        cases hx
        rfl
      rw [hd] at el
      obtain ⟨S3, e3, e4⟩ := bind_ok (show (turn x S').bind (fun S => loopL turn (xs.drop (i + 1)) S) = .ok S2 from el)
      obtain ⟨go, y⟩ := it x hx
      refine .inr ⟨go, fun H' => ∃ w'', LeW w1 w'' ∧ HRel K S3 w'' H', fun H' ⟨w'', l2, h2⟩ => ⟨m - 1, by omega, by omega, w'', S3, l2, h2, e4⟩, fun v H' yl => ?_⟩
      obtain ⟨w2, l2, hr2, r2⟩ := y v H' yl
      exact hB w2 S' x v H' S3 (lw.trans l2) hr2 r2 e3 _ fun w'' H'' l3 h3 => ⟨w'', (lw.trans l2).trans l3, h3⟩
  | cl n =>
    refine ⟨fun i m H => ∃ w' S', LeW w1 w' ∧ HRel K S' w' H ∧ loopC turn n m i S' = .ok S2, ⟨fu, w1, S1, LeW.refl _, hr, e⟩, ?_⟩
    rintro i m H ⟨w', S', lw, hr', el⟩
    cases m with
    | zero => cases el
    | succ m =>
      unfold loopC at el
      split at el
      · rename_i xs hS
        obtain ⟨it, st⟩ := hI w' S' H i xs lw hr' hS
        split at el
        · rename_i x hx
          obtain ⟨S3, e3, e4⟩ := bind_ok el
          obtain ⟨go, y⟩ := it x hx
          refine .inr ⟨go, fun H' => ∃ w'', LeW w1 w'' ∧ HRel K S3 w'' H', fun H' ⟨w'', l2, h2⟩ => ⟨m, by omega, w'', S3, l2, h2, e4⟩, fun v H' yl => ?_⟩
          obtain ⟨w2, l2, hr2, r2⟩ := y v H' yl
          exact hB w2 S' x v H' S3 (lw.trans l2) hr2 r2 e3 _ fun w'' H'' l3 h3 => ⟨w'', (lw.trans l2).trans l3, h3⟩
        · rename_i hx
          cases el
          exact .inl ⟨st hx, hQ w' H lw hr'⟩
      · cases el
theorem key_rep {K : PySem.W.Frag} {F : Hp} {p : P} {v : V} {k : Key} (r : RepP K F p v) (h : keyOf p = some k) : v = kV k := by
  cases p with
  | int i =>
    unfold RepP at r
    subst r
    cases h
    rfl
  | str i =>
    unfold RepP at r
    subst r
    cases h
    rfl
  | _ => cases h
def tIfm (K : PySem.W.Frag) (C : Cn) (e : E) : TT := fun σ H Q => ∃ w env S, HRel K S w H ∧ EnvRel K w env σ ∧ RdG K relB w (evIf C e env S) Q
section
variable {X : Cx} {C : Cn} {ct : Ct} {k : Nat} {pos : Pos} {tg : Expr}
theorem pts_if0 : PTs X [] (tIfm X.K C .nil) := ⟨fun pins s σ H Q I q => pts_nil.run pins s σ H Q I (by
  obtain ⟨w, env, S, hr, he, q⟩ := q
  simp only [evIf] at q
  exact q w true H (LeW.refl _) hr rfl)⟩
theorem pts_if1 {a l : E} {e : Expr} (h : PT X e (tTm X.K C a)) : PTs X [e] (tIfm X.K C (.cons a l)) := ⟨fun pins s σ H Q I q => (pts_one h).run pins s σ H Q I (by
  obtain ⟨w, env, S, hr, he, q⟩ := q
  simp only [evIf] at q
  exact ⟨w, env, S, hr, he, q⟩)⟩
theorem lc_read {K : PySem.W.Frag} {cell : Bool} {own : List (Str × Nat)} {tg : Tg} {it ifs elt : E} (hs : ∀ i ∈ tg.slots, i ∈ own.map (·.2)) {σ : L2.St} {H : Hp} {Q : VK} (q : tE K C (.lc cell own tg it ifs elt) σ H Q) :
    tLc (tIm K C it) (tG K tg) (tIfm K C ifs) (tE K C elt) (own.map (·.2)) σ H Q := by
  obtain ⟨w, env, S, hr, he, q⟩ := q
  simp only [evE] at q
  refine ⟨w, env, S, hr, he, (q.step (rel := ItOk K)).imp fun J H1 h1 => ?_⟩
  obtain ⟨w1, I, S1, l1, hr1, hI, q1⟩ := h1
  intro D hD
  obtain ⟨q0, e0⟩ := q1.pure_ok
  obtain ⟨S2, e1, e2⟩ := bind_ok e0
  rw [e0] at q1
  obtain ⟨x0, S0⟩ := q0
  have lw : LeW w1 ⟨w1.ρ ++ [D], w1.F⟩ := ⟨List.prefix_append _ _, LeL.refl _⟩
  obtain ⟨hrD, _⟩ := hr1.newC (o := .lst []) (c := .lst []) hD rfl ⟨[], upd_same, .nil, Nat.zero_le _⟩
  have hpD : (⟨w1.ρ ++ [D], w1.F⟩ : Wd).ρ[S1.length]? = some D := by
    show (w1.ρ ++ [D])[S1.length]? = some D
    rw [← hr1.len]
    simp
  refine loop_snd (B := fun x H' Nx => tG K tg x (wipe σ (own.map (·.2))) H' fun σ2 H2 => wipe σ2 (own.map (·.2)) = wipe σ (own.map (·.2)) ∧ tIfm K C ifs σ2 H2 fun b H3 =>
    if b = true then tE K C elt σ2 H3 fun y H4 => ∃ acc, H4 D = some (.lst acc) ∧ acc.length < sizeLine ∧ Nx (upd H4 D (.lst (acc ++ [y]))) else Nx H3) (hI.mono lw) hrD e1 (fun w' H' l2 hr2 => ?_) fun w' S' x v H' S'' l2 hr2 r2 et N hN => ?_
  · obtain ⟨w3, l3, hr3, r3⟩ := fin_snd (w0 := w1) hr2 (at_pre l2 hpD) (lw.trans l2) (Nat.le_of_eq hr1.len) e2
    exact q1 w3 _ _ l3 hr3 r3
  · split at et
    · rename_i env' hset
      refine tg_snd hset hr2 r2 ((he.mono ((l1.trans lw).trans l2)).wipe _) fun σ2 he2 hw2 => ⟨?_, ?_⟩
      · rw [hw2 _ hs]
        exact wipe_wipe fun i hi => hi
      · obtain ⟨b, eb, et2⟩ := bind_ok et
        refine ⟨w', env', S', hr2, he2, ?_⟩
        rw [eb]
        intro w3 b' H3 l3 hr3 rb
        have rb' : b.1 = b' := rb
        subst rb'
        split at et2
        · rename_i hb
          rw [if_pos hb]
          obtain ⟨z, ez, et3⟩ := bind_ok et2
          refine ⟨w3, env', b.2, hr3, he2.mono l3, ?_⟩
          rw [ez]
          intro w4 y H4 l4 hr4 r4
          unfold pushC at et3
          split at et3
          · rename_i acc hS
            split at et3
            · rename_i hl
              unfold write at et3
              split at et3
              · rename_i hlow
                cases et3
                have ha := at_pre ((l2.trans l3).trans l4) hpD
                rcases hr4.cell _ _ D hS ha with zz | ⟨hF, us, ho, rr, _⟩
                · cases zz
                · have hl2 : us.length < lim := by rw [← Paired.length rr]; exact hl
                  have hz : (us ++ [y]).length ≤ sizeLine := by
                    rw [List.length_append]
                    have := lim_le
                    show us.length + 1 ≤ sizeLine
                    omega
                  refine ⟨us, ho, Nat.lt_of_lt_of_le hl2 lim_le, ?_⟩
                  exact hN w4 _ (l3.trans l4) (hr4.write (o := .lst (us ++ [y])) ha hF hlow ⟨us ++ [y], upd_same, app_rep rr (.cons r4 .nil), hz⟩)
              · cases et3
            · cases et3
          · cases et3
        · rename_i hb
          rw [if_neg hb]
          cases et2
          exact hN w3 _ l3 hr3
    · cases et
theorem dc_read {K : PySem.W.Frag} {cell : Bool} {own : List (Str × Nat)} {tg : Tg} {it ifs ke elt : E} (hs : ∀ i ∈ tg.slots, i ∈ own.map (·.2)) {σ : L2.St} {H : Hp} {Q : VK} (q : tE K C (.dc cell own tg it ifs ke elt) σ H Q) :
    tDc (tIm K C it) (tG K tg) (tIfm K C ifs) (tE K C ke) (tE K C elt) (own.map (·.2)) σ H Q := by
  obtain ⟨w, env, S, hr, he, q⟩ := q
  simp only [evE] at q
  refine ⟨w, env, S, hr, he, (q.step (rel := ItOk K)).imp fun J H1 h1 => ?_⟩
  obtain ⟨w1, I, S1, l1, hr1, hI, q1⟩ := h1
  intro D hD
  obtain ⟨q0, e0⟩ := q1.pure_ok
  obtain ⟨S2, e1, e2⟩ := bind_ok e0
  rw [e0] at q1
  obtain ⟨x0, S0⟩ := q0
  have lw : LeW w1 ⟨w1.ρ ++ [D], w1.F⟩ := ⟨List.prefix_append _ _, LeL.refl _⟩
  obtain ⟨hrD, _⟩ := hr1.newC (o := .dK []) (c := .dct []) hD rfl ⟨[], upd_same, .nil, Nat.zero_le _⟩
  have hpD : (⟨w1.ρ ++ [D], w1.F⟩ : Wd).ρ[S1.length]? = some D := by
    show (w1.ρ ++ [D])[S1.length]? = some D
    rw [← hr1.len]
    simp
  refine loop_snd (B := fun x H' Nx => tG K tg x (wipe σ (own.map (·.2))) H' fun σ2 H2 => wipe σ2 (own.map (·.2)) = wipe σ (own.map (·.2)) ∧ tIfm K C ifs σ2 H2 fun b H3 =>
    if b = true then tE K C ke σ2 H3 fun y H4 => tE K C elt σ2 H4 fun z H5 => ∃ kvs k, y = kV k ∧ H5 D = some (.dK kvs) ∧ kvs.length < sizeLine ∧ Nx (upd H5 D (.dK (putK kvs k z))) else Nx H3) (hI.mono lw) hrD e1 (fun w' H' l2 hr2 => ?_) fun w' S' x v H' S'' l2 hr2 r2 et N hN => ?_
  · obtain ⟨w3, l3, hr3, r3⟩ := fin_snd (w0 := w1) hr2 (at_pre l2 hpD) (lw.trans l2) (Nat.le_of_eq hr1.len) e2
    exact q1 w3 _ _ l3 hr3 r3
  · split at et
    · rename_i env' hset
      refine tg_snd hset hr2 r2 ((he.mono ((l1.trans lw).trans l2)).wipe _) fun σ2 he2 hw2 => ⟨?_, ?_⟩
      · rw [hw2 _ hs]
        exact wipe_wipe fun i hi => hi
      · obtain ⟨b, eb, et2⟩ := bind_ok et
        refine ⟨w', env', S', hr2, he2, ?_⟩
        rw [eb]
        intro w3 b' H3 l3 hr3 rb
        have rb' : b.1 = b' := rb
        subst rb'
        split at et2
        · rename_i hb
          rw [if_pos hb]
          obtain ⟨y0, ey, et3⟩ := bind_ok et2
          obtain ⟨z0, ez, et4⟩ := bind_ok et3
          refine ⟨w3, env', b.2, hr3, he2.mono l3, ?_⟩
          rw [ey]
          intro w4 y H4 l4 hr4 r4
          refine ⟨w4, env', y0.2, hr4, he2.mono (l3.trans l4), ?_⟩
          rw [ez]
          intro w5 z H5 l5 hr5 r5
          split at et4
          · rename_i p hp
            split at et4
            · rename_i key hk
              have r4' : RepP K w4.F p y := by
                rw [hp] at r4
                exact r4
              unfold putC at et4
              split at et4
              · rename_i acc hS
                split at et4
                · rename_i hl
                  unfold write at et4
                  split at et4
                  · rename_i hlow
                    cases et4
                    have ha := at_pre (((l2.trans l3).trans l4).trans l5) hpD
                    rcases hr5.cell _ _ D hS ha with zz | ⟨hF, us, ho, rr, _⟩
                    · cases zz
                    · have hl2 : us.length < lim := by rw [← Paired.length rr]; exact hl
                      have hz : (putK us key z).length ≤ sizeLine := by
                        have := lim_le
                        have := putK_le (kvs := us) (k := key) (v := z)
                        omega
                      refine ⟨us, key, key_rep r4' hk, ho, Nat.lt_of_lt_of_le hl2 lim_le, ?_⟩
                      exact hN w5 _ ((l3.trans l4).trans l5) (hr5.write (o := .dK (putK us key z)) ha hF hlow ⟨putK us key z, upd_same, RepWk.put r5 rr, hz⟩)
                  · cases et4
                · cases et4
              · cases et4
            · cases et4
          · cases et4
        · rename_i hb
          rw [if_neg hb]
          cases et2
          exact hN w3 _ l3 hr3
    · cases et
end
end LS

set_option Elab.async false
set_option linter.all false
set_option maxRecDepth 100000
set_option maxHeartbeats 1000000
/-! LSb: isinstance with int, bool, (list, tuple); int(b), tuple(x), len(set(x)), d.get(k), d.get(k, z), -1. -/
namespace LS
open PySem PySem.Spec PyProof.Rows L2
theorem nope {p : Prop} (h : false = true) : p := nomatch h
theorem and1 {a b : Bool} (h : (a && b) = true) : a = true := (Bool.and_eq_true_iff.mp h).1
theorem and2 {a b : Bool} (h : (a && b) = true) : b = true := (Bool.and_eq_true_iff.mp h).2
theorem bnot {a : Bool} (h : (!a) = true) : a = false := by
  cases a
  · rfl
  · cases h
def tyN : P → String
  | .non => "NoneType" | .bl _ => "bool" | .int _ => "int" | .str _ => "str" | .lst _ => "list" | .tup _ => "tuple" | .dct _ => "dict" | _ => ""
theorem ty_flat {K : PySem.W.Frag} {F H : Hp} {p : P} {v : V} (r : RepT K F H p v) (h : plainTy p = true) : TyX K H v (.type (tyN p)) := by
  cases p with
  | non => cases T_non r; exact .base .non
  | bl b => cases T_bl r; exact .base (.bl b)
  | int b => cases T_int r; exact .base (.int b)
  | str b => cases T_str r; exact .base (.str b)
  | lst xs =>
    obtain ⟨a, vs, rfl, ho, rs, z⟩ := r
    exact .base (.lst ho)
  | tup xs =>
    obtain ⟨a, vs, rfl, ho, rs, z⟩ := r
    rcases ho with ho | ⟨o, its, n, hk, hc, _⟩
    · rcases ho with ho | ⟨ob, ho⟩
      · exact .base (.tup ho)
      · exact .fTuple ho
    · exact .kTuple hk hc
  | dct xs =>
    obtain ⟨a, vs, o, rfl, ho, c, rs, z⟩ := r
    rcases rd_core ho c with ho | ⟨ob, ho⟩
    · exact .base (.dK ho)
    · exact .fDict ho
  | obj _ _ => cases h
  | scr _ => cases h
theorem kit_int {K : PySem.W.Frag} {p : P} (h : plainTy p = true) : PySem.W.kitOne K (.type (tyN p)) (.type "int") = some (isIntP p) := by
  cases p with
  | non => exact kit_ty (show kitB "NoneType" "int" = some false by decide +kernel)
  | bl => exact kit_ty (show kitB "bool" "int" = some true by decide +kernel)
  | int => exact kit_ty (show kitB "int" "int" = some true by decide +kernel)
  | str => exact kit_ty (show kitB "str" "int" = some false by decide +kernel)
  | lst => exact kit_ty (show kitB "list" "int" = some false by decide +kernel)
  | tup => exact kit_ty (show kitB "tuple" "int" = some false by decide +kernel)
  | dct => exact kit_ty (show kitB "dict" "int" = some false by decide +kernel)
  | _ => exact Bool.noConfusion h
theorem kit_bool {K : PySem.W.Frag} {p : P} (h : plainTy p = true) : PySem.W.kitOne K (.type (tyN p)) (.type "bool") = some (isBoolP p) := by
  cases p with
  | non => exact kit_ty (show kitB "NoneType" "bool" = some false by decide +kernel)
  | bl => exact kit_ty (show kitB "bool" "bool" = some true by decide +kernel)
  | int => exact kit_ty (show kitB "int" "bool" = some false by decide +kernel)
  | str => exact kit_ty (show kitB "str" "bool" = some false by decide +kernel)
  | lst => exact kit_ty (show kitB "list" "bool" = some false by decide +kernel)
  | tup => exact kit_ty (show kitB "tuple" "bool" = some false by decide +kernel)
  | dct => exact kit_ty (show kitB "dict" "bool" = some false by decide +kernel)
  | _ => exact Bool.noConfusion h
theorem kit_list {K : PySem.W.Frag} {p : P} (h : plainTy p = true) : ∃ b, PySem.W.kitOne K (.type (tyN p)) (.type "list") = some b ∧ ∃ c, PySem.W.kitOne K (.type (tyN p)) (.type "tuple") = some c ∧ (b || c) = isRowP p := by
  cases p with
  | non => exact ⟨false, kit_ty (show kitB "NoneType" "list" = some false by decide +kernel), false, kit_ty (show kitB "NoneType" "tuple" = some false by decide +kernel), rfl⟩
  | bl => exact ⟨false, kit_ty (show kitB "bool" "list" = some false by decide +kernel), false, kit_ty (show kitB "bool" "tuple" = some false by decide +kernel), rfl⟩
  | int => exact ⟨false, kit_ty (show kitB "int" "list" = some false by decide +kernel), false, kit_ty (show kitB "int" "tuple" = some false by decide +kernel), rfl⟩
  | str => exact ⟨false, kit_ty (show kitB "str" "list" = some false by decide +kernel), false, kit_ty (show kitB "str" "tuple" = some false by decide +kernel), rfl⟩
  | lst => exact ⟨true, kit_ty (show kitB "list" "list" = some true by decide +kernel), false, kit_ty (show kitB "list" "tuple" = some false by decide +kernel), rfl⟩
  | tup => exact ⟨false, kit_ty (show kitB "tuple" "list" = some false by decide +kernel), true, kit_ty (show kitB "tuple" "tuple" = some true by decide +kernel), rfl⟩
  | dct => exact ⟨false, kit_ty (show kitB "dict" "list" = some false by decide +kernel), false, kit_ty (show kitB "dict" "tuple" = some false by decide +kernel), rfl⟩
  | _ => exact Bool.noConfusion h
theorem kit_row {K : PySem.W.Frag} {p : P} (h : plainTy p = true) : PySem.W.kitAny K (.type (tyN p)) [.type "list", .type "tuple"] = some (isRowP p) := by
  obtain ⟨b, hb, c, hc, e⟩ := kit_list (K := K) h
  refine kitAny_cons hb (fun z => ?_) (fun z => ?_)
  · subst z
    refine kitAny_cons hc (fun z => ?_) (fun z => ?_)
    · subst z
      rw [← e]
      exact kitAny_nil
    · subst z
      exact e.symm
  · subst z
    exact e.symm
end LS

set_option Elab.async false
set_option linter.all false
set_option maxRecDepth 100000
set_option maxHeartbeats 400000
/-! LSc: the rules of LSb's calls. -/
namespace LS
open PySem PySem.Spec PyProof.Rows L2
section
variable {X : Cx} {C : Cn} {ct : Ct} {k : Nat} {pos : Pos}
/-- the value of such a call, from that of its one part -/
theorem pf_go {f : PF} {a : E} {te : TE} {x : Expr} (hp : PE X x te)
    (k : ∀ σ H Q, (tE X.K C a σ H fun v H1 => ∃ (w1 : Wd) (S1 : Cells) (y : W) (p p' : P), HRel X.K S1 w1 H1 ∧ RepW X.K w1 y v ∧ y.view S1 = some p ∧ pfOp f p = some p' ∧ ∀ w' v' H', LeW w1 w' → HRel X.K S1 w' H' → RepP X.K w'.F p' v' → Q v' H') → te σ H Q) :
    PE X x (tE X.K C (.pf f a)) := by
  refine PE.weak hp fun σ H Q q => k σ H Q ?_
  obtain ⟨w, env, S, hr, he, q⟩ := q
  simp only [evE] at q
  refine ⟨w, env, S, hr, he, (q.step (rel := RepW X.K)).imp fun v H1 h1 => ?_⟩
  obtain ⟨w1, x1, S1, l1, hr1, r1, q1⟩ := h1
  simp only at q1
  split at q1
  · rename_i p hv
    split at q1
    · rename_i p' hf
      exact ⟨w1, S1, x1, p, p', hr1, r1, hv, hf, fun w' v' H' lw hr' rp => q1 w' v' H' lw hr' rp⟩
    · exact q1.elim
  · exact q1.elim
theorem c_pf (G : Gd C ct k X) {f : PF} {a : E} {g : Str} {p : Pos} {es : List Expr} {e : Expr} (hh : pfHead ct f g es = true) (ha' : pfArg f es = some e) (hs : notStar e = true) (ha : PE X e (tE X.K C a)) : PE X (.Call (.Name g p) es [] pos) (tE X.K C (.pf f a)) := by
  have hu := G.hu
  have isi : ∀ {T c : Str} {u : String} {pc : Pos}, gB ct "isinstance" g = true → gB ct T c = true → T ∈ bltNames → bootBuiltins T = some (.type u) → (∀ {p : P}, plainTy p = true → ∀ p', pfOp f p = some p' → ∃ b, p' = .bl b ∧ PySem.W.kitOne X.K (.type (tyN p)) (.type u) = some b) → (∀ p p', pfOp f p = some p' → plainTy p = true) →
      PE X (.Call (.Name g p) [e, .Name c pc] [] pos) (tE X.K C (.pf f a)) := fun {T c u pc} h1 h2 hT hb hk hpl => by
    obtain ⟨rfl, hg, ho⟩ := gB_ok G h1
    obtain ⟨rfl, hg2, ho2⟩ := gB_ok G h2
    have st := starEach_ns (e := e) (es := [.Name T pc]) (env := X.env) hs
    have hN : PE X (.Name T pc) (tC (.ty u)) := pe_bltn hg2 (G.blt _ hT) hb rfl (okName_3 ho2) (okName_1 ho2)
    refine pf_go (pe_callB call_isi hg (G.blt _ (by decide +kernel)) (by decide +kernel) (pa_cons ha (pa_cons hN pa_nil) st) (okName_3 ho) (okName_1 ho) st rfl) fun σ H Q q => ?_
    obtain ⟨w, env, S, hr, he, q⟩ := q
    refine ⟨w, env, S, hr, he, q.imp fun v H1 ⟨w1, S1, y, p0, p', hr1, r1, hv, hf, q1⟩ => ?_⟩
    have pl := hpl _ _ hf
    obtain ⟨b, rfl, kt⟩ := hk pl _ hf
    exact ⟨v, .ty u, _, .type u, b, rfl, .ty u, ty_flat (hr1.view hv r1) pl, kt, q1 w1 _ _ (LeW.refl _) hr1 P_bl⟩
  have one : ∀ {T : Str} {u : String} {r : List V → Hp → VK → Prop}, gB ct T g = true → T ∈ bltNames → bootBuiltins T = some (.type u) → CallR X (.type u) r →
      (∀ {w : Wd} {S : Cells} {H : Hp} {y : W} {v : V} {p p' : P} {Q : VK}, HRel X.K S w H → RepW X.K w y v → y.view S = some p → pfOp f p = some p' → (∀ w' v' H', LeW w w' → HRel X.K S w' H' → RepP X.K w'.F p' v' → Q v' H') → r [v] H Q) →
      PE X (.Call (.Name g p) [e] [] pos) (tE X.K C (.pf f a)) := fun {T u r} h1 hT hb hc hk => by
    obtain ⟨rfl, hg, ho⟩ := gB_ok G h1
    have st := starEach_ns (e := e) (es := []) (env := X.env) hs
    refine pf_go (pe_callTy hc hg (G.blt _ hT) hb (pa_cons ha pa_nil st) (okName_3 ho) (okName_1 ho) st rfl) fun σ H Q q => ?_
    obtain ⟨w, env, S, hr, he, q⟩ := q
    exact ⟨w, env, S, hr, he, q.imp fun v H1 ⟨w1, S1, y, p0, p', hr1, r1, hv, hf, q1⟩ => hk hr1 r1 hv hf q1⟩
  unfold pfHead at hh
  split at hh
  · cases ha'
    exact isi (u := "int") (and1 hh) (and2 hh) (by decide +kernel) (by decide +kernel) (fun {q} h p' e => by
      simp only [pfOp, if_pos h] at e
      cases e
      exact ⟨_, rfl, kit_int h⟩) fun q p' e => by
        by_cases h : plainTy q = true
        · exact h
        · simp only [pfOp, if_neg h] at e
          cases e
  · cases ha'
    exact isi (u := "bool") (and1 hh) (and2 hh) (by decide +kernel) (by decide +kernel) (fun {q} h p' e => by
      simp only [pfOp, if_pos h] at e
      cases e
      exact ⟨_, rfl, kit_bool h⟩) fun q p' e => by
        by_cases h : plainTy q = true
        · exact h
        · simp only [pfOp, if_neg h] at e
          cases e
  · cases ha'
    obtain ⟨rfl, hg, ho⟩ := gB_ok G (and1 (and1 hh))
    obtain ⟨rfl, hg2, ho2⟩ := gB_ok G (and2 (and1 hh))
    obtain ⟨rfl, hg3, ho3⟩ := gB_ok G (and2 hh)
    rename_i e0 pc pd kt pt
    have st := starEach_ns (e := e) (es := [.Tuple [.Name "list" pc, .Name "tuple" pd] kt pt]) (env := X.env) hs
    have hN1 : PE X (.Name "list" pc) (tC (.ty "list")) := pe_bltn hg2 (G.blt _ (by decide +kernel)) (by decide +kernel : bootBuiltins "list" = some (.type "list")) rfl (okName_3 ho2) (okName_1 ho2)
    have hN2 : PE X (.Name "tuple" pd) (tC (.ty "tuple")) := pe_bltn hg3 (G.blt _ (by decide +kernel)) (by decide +kernel : bootBuiltins "tuple" = some (.type "tuple")) rfl (okName_3 ho3) (okName_1 ho3)
    refine pf_go (pe_callB call_isiT hg (G.blt _ (by decide +kernel)) (by decide +kernel) (pa_cons ha (pa_cons (pe_tup (pa_cons hN1 (pa_cons hN2 pa_nil))) pa_nil) st) (okName_3 ho) (okName_1 ho) st rfl) fun σ H Q q => ?_
    obtain ⟨w, env, S, hr, he, q⟩ := q
    refine ⟨w, env, S, hr, he, q.imp fun v H1 ⟨w1, S1, y, p0, p', hr1, r1, hv, hf, q1⟩ => ?_⟩
    refine ⟨by decide, fun tp htp => ?_⟩
    have pl : plainTy p0 = true := by
      by_cases h : plainTy p0 = true
      · exact h
      · simp only [pfOp, if_neg h] at hf
        cases hf
    simp only [pfOp, if_pos pl] at hf
    cases hf
    obtain ⟨hr2, lw⟩ := hr1.newF (o := .tup [.ty "list", .ty "tuple"]) htp
    exact ⟨v, tp, [.ty "list", .ty "tuple"], _, [.type "list", .type "tuple"], _, rfl, upd_same, .cons (.ty "list") (.cons (.ty "tuple") .nil), ty_flat (hr2.view hv (r1.mono lw)) pl, kit_row pl, q1 _ _ _ lw hr2 P_bl⟩
  · cases ha'
    exact one (u := "int") hh (by decide +kernel) (by decide +kernel) call_int1 fun {w S H y v q p' Q} hr r hv hf q1 => by
      cases q with
      | bl b =>
        cases hf
        cases T_bl (hr.view hv r)
        exact .inr ⟨b, rfl, q1 w _ _ (LeW.refl _) hr (by cases b <;> exact P_int)⟩
      | _ => cases hf
  · cases ha'
    exact one (u := "tuple") (r := fun xs H Q => ∃ x, xs = [x] ∧ kTup X.K x H Q) hh (by decide +kernel) (by decide +kernel) (fun pins s σ H vs us Q I r ⟨x, ex, h⟩ => by
      subst ex
      obtain ⟨u, rfl, ru⟩ := vals1 r
      exact rl_tuple pins s σ H x u Q I ru h) fun {w S H y v q p' Q} hr r hv hf q1 => by
      cases q with
      | lst l =>
        cases hf
        obtain ⟨ad, vs, rfl, ho, rs, z⟩ := hr.view hv r
        refine ⟨_, rfl, .inl ⟨ad, vs, rfl, SqL.of ho, fun p hp => ?_⟩⟩
        obtain ⟨w', lw, hr', rp⟩ := new_tup hr hp rs z
        exact q1 w' _ _ lw hr' rp
      | tup l =>
        cases hf
        cases y with
        | v y =>
          cases hv
          have r' : RepP X.K w.F (.tup l) v := r
          obtain ⟨ad, vs, rfl, ho, rs, z⟩ := RepP.top hr.le r'
          exact ⟨_, rfl, .inr ⟨ad, vs, rfl, ho, q1 w _ _ (LeW.refl _) hr r'⟩⟩
        | c n =>
          exfalso
          cases hS : S[n]? with
          | none => simp [W.view, hS] at hv
          | some c =>
            simp [W.view, hS] at hv
            cases c with
            | lst ws => cases h : allP ws <;> simp [Cell.view, h] at hv
            | dct ws => cases h : allKP ws <;> simp [Cell.view, h] at hv
            | ins c ws => cases h : allFP ws <;> simp [Cell.view, h] at hv
            | dead => simp [Cell.view] at hv
      | _ => cases hf
  · rename_i c pc e1 p2
    cases ha'
    obtain ⟨rfl, hg, ho⟩ := gB_ok G (and1 hh)
    obtain ⟨rfl, hg2, ho2⟩ := gB_ok G (and2 hh)
    have st := starEach_ns (e := e) (es := []) (env := X.env) hs
    refine pf_go (pe_lenT hg (G.blt _ (by decide +kernel)) hg2 (G.blt _ (by decide +kernel)) ha G.calm st) fun σ H Q q => ?_
    obtain ⟨w, env, S, hr, he, q⟩ := q
    refine ⟨w, env, S, hr, he, q.imp fun v H1 ⟨w1, S1, y, p0, p', hr1, r1, hv, hf, q1⟩ => ?_⟩
    cases p0 with
    | lst l =>
      simp only [pfOp] at hf
      split at hf
      · rename_i ss hss
        split at hf
        · rename_i hl
          cases hf
          obtain ⟨ad, vs, rfl, ho, rs, z⟩ := hr1.view hv r1
          cases strs_rep rs hss
          exact ⟨ad, ss, rfl, SqL.of ho, hl, q1 w1 _ _ (LeW.refl _) hr1 P_int⟩
        · cases hf
      · cases hf
    | _ => cases hf
  · cases hh
theorem get_snd {w : Wd} {S : Cells} {H : Hp} {x y z : W} {v u t : V} {Q : VK} (hr : HRel X.K S w H) (rx : RepW X.K w x v) (ry : RepW X.K w y u) (rz : RepW X.K w z t) (q : RdG X.K (RepW X.K) w (getOp x y z S) Q) : ∃ a o, v = .ref a ∧ DGet H a u o ∧ Q (o.getD t) H := by
  unfold getOp at q
  split at q
  · rename_i kvs p hv
    split at q
    · rename_i key hk
      obtain ⟨ad, kvs', o, rfl, ho, c, r, hz⟩ := hr.view hv rx
      have eu := key_rep (show RepP X.K w.F p u from ry) hk
      subst eu
      refine ⟨ad, _, rfl, .inl ⟨kvs', key, rd_core ho c, rfl, rfl⟩, ?_⟩
      cases e : getK kvs key with
      | none =>
        rw [(RepPk.get (k := key) r).2 e]
        rw [e] at q
        exact q w _ _ (LeW.refl _) hr rz
      | some p0 =>
        obtain ⟨v0, e0, r0⟩ := (RepPk.get (k := key) r).1 p0 e
        rw [e0]
        rw [e] at q
        exact q w _ _ (LeW.refl _) hr (show RepP X.K w.F p0 v0 from r0)
    · exact q.elim
  · exact q.elim
theorem isDct_rep {w : Wd} {S : Cells} {H : Hp} {x : W} {v : V} (hr : HRel X.K S w H) (rx : RepW X.K w x v) (h : isDct x S = true) : ∃ a, v = .ref a ∧ IsD H a := by
  unfold isDct at h
  split at h
  · rename_i kvs hv
    obtain ⟨ad, kvs', o, rfl, ho, c, r, hz⟩ := hr.view hv rx
    exact ⟨ad, rfl, .inl ⟨kvs', rd_core ho c⟩⟩
  · cases h
theorem c_get (G : Gd C ct k X) {a b : E} {x e : Expr} {apos : Pos} (hb : notSuper x = true) (hs : notStar e = true) (hline : (apos.endLine == pos.line) = true) (ha : PE X x (tE X.K C a)) (he' : PE X e (tE X.K C b)) : PE X (.Call (.Attribute x "get" apos) [e] [] pos) (tE X.K C (.get a b)) := by
  have hu := G.hu
  have hss : [e].all notStar = true := by simp [hs]
  refine PE.weak (pe_dget1 (by omega) ha he' ⟨attrBase_ns hb, few_ok hss (by simp), hline, by rw [starEach_ns hs]; rfl⟩) fun σ H Q q => ?_
  obtain ⟨w, env, S, hr, he, q⟩ := q
  simp only [evE] at q
  refine ⟨w, env, S, hr, he, (q.step (rel := RepW X.K)).imp fun v H1 h1 => ?_⟩
  obtain ⟨w1, x1, S1, l1, hr1, r1, q1⟩ := h1
  simp only at q1
  split at q1
  · rename_i hd
    obtain ⟨ad, rfl, isd⟩ := isDct_rep hr1 r1 hd
    refine ⟨ad, rfl, isd, w1, env, S1, hr1, he.mono l1, (q1.step (rel := RepW X.K)).imp fun u H2 h2 => ?_⟩
    obtain ⟨w2, x2, S2, l2, hr2, r2, q2⟩ := h2
    obtain ⟨a', o, ea, dg, qq⟩ := get_snd hr2 (r1.mono l2) r2 (z := .v .non) (t := .non) (show RepP X.K w2.F .non .non from P_non) q2
    cases ea
    exact ⟨o, dg, qq⟩
  · exact q1.elim
theorem c_get2 (G : Gd C ct k X) {a b d : E} {x e e2 : Expr} {apos : Pos} (hb : notSuper x = true) (hs : notStar e = true) (hs2 : notStar e2 = true) (hline : (apos.endLine == pos.line) = true) (ha : PE X x (tE X.K C a)) (he' : PE X e (tE X.K C b)) (hf : PE X e2 (tE X.K C d)) : PE X (.Call (.Attribute x "get" apos) [e, e2] [] pos) (tE X.K C (.get2 a b d)) := by
  have hu := G.hu
  have hss : [e, e2].all notStar = true := by simp [hs, hs2]
  refine PE.weak (pe_dget2 (by omega) ha he' hf ⟨attrBase_ns hb, few_ok hss (by simp), hline, by rw [starEach_ns hs, starEach_ns hs2]; rfl⟩) fun σ H Q q => ?_
  obtain ⟨w, env, S, hr, he, q⟩ := q
  simp only [evE] at q
  refine ⟨w, env, S, hr, he, (q.step (rel := RepW X.K)).imp fun v H1 h1 => ?_⟩
  obtain ⟨w1, x1, S1, l1, hr1, r1, q1⟩ := h1
  simp only at q1
  split at q1
  · rename_i hd
    obtain ⟨ad, rfl, isd⟩ := isDct_rep hr1 r1 hd
    refine ⟨ad, rfl, isd, w1, env, S1, hr1, he.mono l1, (q1.step (rel := RepW X.K)).imp fun u H2 h2 => ?_⟩
    obtain ⟨w2, x2, S2, l2, hr2, r2, q2⟩ := h2
    refine ⟨w2, env, S2, hr2, he.mono (l1.trans l2), (q2.step (rel := RepW X.K)).imp fun t H3 h3 => ?_⟩
    obtain ⟨w3, x3, S3, l3, hr3, r3, q3⟩ := h3
    obtain ⟨a', o, ea, dg, qq⟩ := get_snd hr3 (r1.mono (l2.trans l3)) (r2.mono l3) r3 q3
    cases ea
    exact ⟨o, dg, qq⟩
  · exact q1.elim
theorem c_neg {i j : Int} {n : Nat} {p : Pos} (h : i = -j) : PE X (.UnaryOp .USub (.Constant (.int j) n p) pos) (tE X.K C (.lit (.int i))) := by
  refine PE.weak (pe_un un_neg pe_int) fun σ H Q q => ?_
  obtain ⟨w, env, S, hr, he, q⟩ := q
  simp only [evE] at q
  subst h
  exact ⟨j, rfl, q w _ _ (LeW.refl _) hr (show RepP X.K w.F (.int (-j)) _ from P_int)⟩
end
end LS

set_option Elab.async false
set_option linter.all false
set_option maxRecDepth 100000
set_option maxHeartbeats 1000000
/-! LS13: every expression that the checker passes is read as it should be. -/
namespace LS
open PySem PySem.Spec PyProof.Rows L2

structure Snd (C : Cn) (k : Nat) (z : E) : Prop where
  e : ∀ {ct : Ct} {X : Cx} (G : Gd C ct k X) {x : Expr}, chE ct z x = true → PE X x (tE X.K C z) := by exact fun {_ _} _ {x} h => nope h
  t : ∀ {ct : Ct} {X : Cx} (G : Gd C ct k X) {x : Expr}, chE ct z x = true → tsE z x = true → PT X x (tTm X.K C z) := by exact fun {_ _} _ {x} h _ => nope h
  wa : ∀ {ct : Ct} {X : Cx} (G : Gd C ct k X) {vs : List Expr} {pos : Pos}, chE ct z (.BoolOp .And vs pos) = true → tsE z (.BoolOp .And vs pos) = true → PW X (.BoolOp .And vs pos) (tTm X.K C z) := by exact fun {_ _} _ {_ _} h _ => nope h
  wo : ∀ {ct : Ct} {X : Cx} (G : Gd C ct k X) {vs : List Expr} {pos : Pos}, chE ct z (.BoolOp .Or vs pos) = true → tsE z (.BoolOp .Or vs pos) = true → PW X (.BoolOp .Or vs pos) (tTm X.K C z) := by exact fun {_ _} _ {_ _} h _ => nope h
  l : ∀ {ct : Ct} {X : Cx} (G : Gd C ct k X) {es : List Expr}, chL ct z es = true → PA X es (tAm X.K C z) := by exact fun {_ _} _ {_} h => nope h
  d : ∀ {ct : Ct} {X : Cx} (G : Gd C ct k X) {ks : List (Option Expr)} {vs : List Expr} {pos : Pos}, chK ct z ks vs = true → PPs X pos ks vs (kTs X.K C z) := by exact fun {_ _} _ {_ _ _} h => nope h
  j : ∀ {ct : Ct} {X : Cx} (G : Gd C ct k X) {es : List Expr}, chJ ct z es = true → PJ X es (jTs X.K C z) := by exact fun {_ _} _ {_} h => nope h
  i : ∀ {ct : Ct} {X : Cx} (G : Gd C ct k X) {x tg : Expr}, chI ct z x tg = true → PI X tg x (tIm X.K C z) := by exact fun {_ _} _ {_ _} h => nope h
  o : ∀ {ct : Ct} {X : Cx} (G : Gd C ct k X) {x : Option Expr}, chO ct z x = true → PO X x (tOm X.K C z) := by exact fun {_ _} _ {_} h => nope h
  hd : ∀ {ct : Ct} {X : Cx} (G : Gd C ct k X) {x : Expr}, chO ct z (some x) = true → ∀ a l, z = .cons a l → PE X x (tE X.K C a) := by exact fun {_ _} _ {_} h _ _ _ => nope h
  f : ∀ {ct : Ct} {X : Cx} (G : Gd C ct k X) {es : List Expr}, chIf ct z es = true → PTs X es (tIfm X.K C z) := by exact fun {_ _} _ {_} h => nope h
section
variable {X : Cx} {C : Cn} {ct : Ct} {k : Nat} {pos : Pos}
theorem chL_nil : ∀ {l : E}, chL ct l [] = true → l = .nil := by
  intro l h
  cases l with
  | nil => rfl
  | _ => exact nope h
theorem chK_facts : ∀ {l : E} {ks : List (Option Expr)} {vs : List Expr}, chK ct l ks vs = true → ks.all (·.isSome) = true ∧ ks.length = vs.length ∧ (ks = [] → vs = [] ∧ l = .nil) := by
  intro l
  induction l with
  | nil =>
    intro ks vs h
    cases ks with
    | nil =>
      cases vs with
      | nil => exact ⟨rfl, rfl, fun _ => ⟨rfl, rfl⟩⟩
      | cons v vs => exact nope h
    | cons a ks => exact nope h
  | kv x y l _ _ ih =>
    intro ks vs h
    cases ks with
    | nil => exact nope h
    | cons a ks =>
      cases a with
      | none => exact nope h
      | some a =>
        cases vs with
        | nil => exact nope h
        | cons v vs =>
          have h' : (chE ct x a && chE ct y v && chK ct l ks vs) = true := h
          obtain ⟨h1, h2, h3⟩ := ih (and2 h')
          exact ⟨by simp [h1], by simp [h2], fun z => nomatch z⟩
  | _ => exact fun h => nope h
theorem s_ite (G : Gd C ct k X) {t a b : E} {c x y : Expr} (ht : PT X c (tTm X.K C t)) (ha : PE X x (tE X.K C a)) (hb : PE X y (tE X.K C b)) : PE X (.IfExp c x y pos) (tE X.K C (.ite t a b)) := by
  refine PE.weak (pe_ifExp ht ha hb) fun σ H Q q => ?_
  obtain ⟨w, env, S, hr, he, q⟩ := q
  simp only [evE] at q
  refine ⟨w, env, S, hr, he, (q.step (rel := relB)).imp fun v H1 h1 => ?_⟩
  obtain ⟨w1, x1, S1, l1, hr1, r1, q1⟩ := h1
  cases r1
  simp only at q1
  split at q1
  · rename_i hb
    rw [if_pos hb]
    exact ⟨w1, env, S1, hr1, he.mono l1, q1⟩
  · rename_i hb
    rw [if_neg hb]
    exact ⟨w1, env, S1, hr1, he.mono l1, q1⟩
theorem tg_in {own : List (Str × Nat)} {tg : Tg} (h : tgIn own tg = true) : ∀ i ∈ tg.slots, i ∈ own.map (·.2) := fun i hi => of_decide_eq_true (List.all_eq_true.mp h i hi)
theorem blk_ok (G : Gd C ct k X) {scope : Scope} {own : List (Str × Nat)} (h : blkC ct.N ct.sc scope own = true) : BlkOk X.N X.env.scope scope own := by
  rw [G.N, G.sc]
  exact blkOk_by h
/-- what a list comprehension's parts give -/
theorem lc_parts (G : Gd C ct k X) {own : List (Str × Nat)} {tg : Tg} {it ifs elt : E} {x t i : Expr} {cs : List Expr} {scope : Scope} (si : Snd C k it) (sf : Snd C k ifs) (se : Snd C k elt)
    (h : (blkC ct.N ct.sc scope own && tgIn own tg && chI ct it i t && notSetE i && tgB (ct.blk scope) tg t && chIf (ct.blk scope) ifs cs && chE (ct.blk scope) elt x) = true) :
    PI X t i (tIm X.K C it) ∧ BlkOk X.N X.env.scope scope own ∧ (∀ (s : Shared) (H : Hp) (D : Addr) (cl : List (Str × Addr)) (fp : List Addr), PG (X.blk s H scope (compEnvC scope cl D X.env) fp) t (tG X.K tg)) ∧
      (∀ (s : Shared) (H : Hp) (D : Addr) (cl : List (Str × Addr)) (fp : List Addr), PTs (X.blk s H scope (compEnvC scope cl D X.env) fp) cs (tIfm X.K C ifs)) ∧
      (∀ (s : Shared) (H : Hp) (D : Addr) (cl : List (Str × Addr)) (fp : List Addr), PE (X.blk s H scope (compEnvC scope cl D X.env) fp) x (tE X.K C elt)) ∧ (∀ y, foldedSetIterable i X.env y = pure y) ∧ ∀ j ∈ tg.slots, j ∈ own.map (·.2) := by
  simp only [Bool.and_eq_true] at h
  obtain ⟨⟨⟨⟨⟨⟨h1, h2⟩, h3⟩, h4⟩, h5⟩, h6⟩, h7⟩ := h
  exact ⟨si.i G h3, blk_ok G h1, fun s H D cl fp => pg_tg (G.blk scope s H D cl fp) h5, fun s H D cl fp => sf.f (G.blk scope s H D cl fp) h6, fun s H D cl fp => se.e (G.blk scope s H D cl fp) h7, folded_ns h4, tg_in h2⟩
end
theorem cmp_bl {o : CO} {x y : W} {S : Cells} {q : W × Cells} (h : cmpOp o x y S = .ok q) : ∃ b, q.1 = .v (.bl b) := by
  unfold cmpOp at h
  split at h
  · split at h
    · cases h
      exact ⟨_, rfl⟩
    · cases h
  · cases h
theorem snd_all (C : Cn) (k : Nat) (e : E) : Snd C k e := by
  induction e with
  | var i => exact {
      e := fun {ct X} G {x} h => by
        cases x with
        | Name y p => exact c_var G h
        | _ => exact nope h
      t := fun {ct X} G {x} h ht => pt_plain ht (by
        cases x with
        | Name y p => exact c_var G h
        | _ => exact nope h) }
  | lit p =>
    have he : ∀ {ct : Ct} {X : Cx} (G : Gd C ct k X) {x : Expr}, chE ct (.lit p) x = true → PE X x (tE X.K C (.lit p)) := fun {ct X} G {x} h => by
      cases x with
      | Constant c j q => exact c_lit (by cases p <;> exact h)
      | UnaryOp op y pos =>
        cases p with
        | int i =>
          cases op with
          | USub =>
            cases y with
            | Constant c j q =>
              cases c with
              | int n => exact c_neg (of_decide_eq_true h)
              | _ => exact nope h
            | _ => exact nope h
          | _ => exact nope h
        | _ =>
          cases op with
          | USub =>
            cases y with
            | Constant c j q => cases c <;> exact nope h
            | _ => exact nope h
          | _ => exact nope h
      | _ => cases p <;> exact nope h
    exact {
      e := he
      t := fun {ct X} G {x} h ht => pt_plain ht (he G h)
      wa := fun {ct X} G {_ _} h _ => by cases p <;> exact nope h
      wo := fun {ct X} G {_ _} h _ => by cases p <;> exact nope h }
  | glo y => exact {
      e := fun {ct X} G {x} h => by
        cases x with
        | Name y p => exact c_glo G h
        | _ => exact nope h
      t := fun {ct X} G {x} h ht => pt_plain ht (by
        cases x with
        | Name y p => exact c_glo G h
        | _ => exact nope h) }
  | bin o a b ha hb =>
    have he : ∀ {ct : Ct} {X : Cx} (G : Gd C ct k X) {x : Expr}, chE ct (.bin o a b) x = true → PE X x (tE X.K C (.bin o a b)) := fun {ct X} G {x} h => by
      cases x with
      | BinOp l p r pos =>
        have h' : (boB o p && chE ct a l && chE ct b r) = true := h
        exact c_bin (and1 (and1 h')) (ha.e G (and2 (and1 h'))) (hb.e G (and2 h'))
      | _ => exact nope h
    exact { e := he, t := fun {ct X} G {x} h ht => pt_plain ht (he G h) }
  | cmp o a b ha hb =>
    exact {
      e := fun {ct X} G {x} h => by
        cases x with
        | Compare l ps rs pos =>
          rcases ps with _ | ⟨p, _ | ⟨p', ps⟩⟩
          · exact nope h
          · rcases rs with _ | ⟨r, _ | ⟨r', rs⟩⟩
            · exact nope h
            · have h' : (coB o p && chE ct a l && chE ct b r && !behindInMarks p r) = true := h
              exact c_cmp G (and1 (and1 (and1 h'))) (bnot (and2 h')) (ha.e G (and2 (and1 (and1 h')))) (hb.e G (and2 (and1 h')))
            · exact nope h
          · rcases rs with _ | ⟨r, _ | ⟨r', rs⟩⟩
            · exact nope h
            · exact nope h
            · exact nope h
        | _ => exact nope h
      t := fun {ct X} G {x} h ht => by
        cases x with
        | Compare l ps rs pos =>
          rcases ps with _ | ⟨p, _ | ⟨p', ps⟩⟩
          · exact nope h
          · rcases rs with _ | ⟨r, _ | ⟨r', rs⟩⟩
            · exact nope h
            · have h' : (coB o p && chE ct a l && chE ct b r && !behindInMarks p r) = true := h
              have e : coOp o = p := of_decide_eq_true (and1 (and1 (and1 h')))
              subst e
              have hu := G.hu
              refine t_val (pt_cmpR (op_any _) (ha.e G (and2 (and1 (and1 h')))) (hb.e G (and2 (and1 h'))) (bnot (and2 h'))) (fun σ H Q q => ?_) fun env S q hq => ?_
              · obtain ⟨w, env, S, hr, he, q⟩ := q
                simp only [evE] at q
                refine ⟨w, env, S, hr, he, (q.step (rel := RepW X.K)).imp fun v H1 h1 => ?_⟩
                obtain ⟨w1, x, S1, l1, hr1, r1, q1⟩ := h1
                refine ⟨w1, env, S1, hr1, he.mono l1, (q1.step (rel := RepW X.K)).imp fun u H2 h2 => ?_⟩
                obtain ⟨w2, y, S2, l2, hr2, r2, q2⟩ := h2
                exact cmp_snd o (by omega) hr2 (r1.mono l2) r2 q2
              · simp only [evE] at hq
                obtain ⟨q1, _, e2⟩ := bind_ok hq
                obtain ⟨q2, _, e3⟩ := bind_ok e2
                exact cmp_bl e3
            · exact nope h
          · rcases rs with _ | ⟨r, _ | ⟨r', rs⟩⟩
            · exact nope h
            · exact nope h
            · exact nope h
        | _ => exact nope h }
  | chn o o' a b c ha hb hc =>
    exact {
      e := fun {ct X} G {x} h => by
        cases x with
        | Compare l ps rs pos =>
          rcases ps with _ | ⟨p, _ | ⟨p', _ | ⟨p'', ps⟩⟩⟩
          · exact nope h
          · exact nope h
          · rcases rs with _ | ⟨m, _ | ⟨r, _ | ⟨r', rs⟩⟩⟩
            · exact nope h
            · exact nope h
            · have h' : (coB o p && coB o' p' && chE ct a l && chE ct b m && chE ct c r && !lastMarks [p, p'] [m, r]) = true := h
              exact c_chn G (and1 (and1 (and1 (and1 (and1 h'))))) (and2 (and1 (and1 (and1 (and1 h'))))) (bnot (and2 h')) (ha.e G (and2 (and1 (and1 (and1 h'))))) (hb.e G (and2 (and1 (and1 h')))) (hc.e G (and2 (and1 h')))
            · exact nope h
          · exact nope h
        | _ => exact nope h
      t := fun {ct X} G {x} h ht => by
        cases x with
        | Compare l ps rs pos =>
          rcases ps with _ | ⟨p, _ | ⟨p', _ | ⟨p'', ps⟩⟩⟩
          · exact nope h
          · exact nope h
          · rcases rs with _ | ⟨m, _ | ⟨r, _ | ⟨r', rs⟩⟩⟩
            · exact nope h
            · exact nope h
            · have h' : (coB o p && coB o' p' && chE ct a l && chE ct b m && chE ct c r && !lastMarks [p, p'] [m, r]) = true := h
              have e : coOp o = p := of_decide_eq_true (and1 (and1 (and1 (and1 (and1 h')))))
              have e' : coOp o' = p' := of_decide_eq_true (and2 (and1 (and1 (and1 (and1 h')))))
              subst e e'
              have hu := G.hu
              refine t_val (pt_chain (op_any _) (op_any _) (ha.e G (and2 (and1 (and1 (and1 h'))))) (hb.e G (and2 (and1 (and1 h')))) (hc.e G (and2 (and1 h'))) (bnot (and2 h'))) (fun σ H Q q => ?_) fun env S q hq => ?_
              · obtain ⟨w, env, S, hr, he, q⟩ := q
                simp only [evE] at q
                refine ⟨w, env, S, hr, he, (q.step (rel := RepW X.K)).imp fun v H1 h1 => ?_⟩
                obtain ⟨w1, x, S1, l1, hr1, r1, q1⟩ := h1
                refine ⟨w1, env, S1, hr1, he.mono l1, (q1.step (rel := RepW X.K)).imp fun u H2 h2 => ?_⟩
                obtain ⟨w2, y, S2, l2, hr2, r2, q2⟩ := h2
                refine cmp_snd o (by omega) hr2 (r1.mono l2) r2 ((q2.step (rel := RepW X.K)).imp fun z H3 h3 => ?_)
                obtain ⟨w3, zw, S3, l3, hr3, r3, q3⟩ := h3
                simp only at q3
                split at q3
                · have r3' : RepP X.K w3.F (.bl true) z := r3
                  unfold RepP at r3'
                  subst r3'
                  refine ⟨true, rfl, ?_⟩
                  rw [if_pos rfl]
                  refine ⟨w3, env, S3, hr3, he.mono ((l1.trans l2).trans l3), (q3.step (rel := RepW X.K)).imp fun t H4 h4 => ?_⟩
                  obtain ⟨w4, tw, S4, l4, hr4, r4, q4⟩ := h4
                  exact cmp_snd o' (by omega) hr4 (r2.mono (l3.trans l4)) r4 q4
                · have r3' : RepP X.K w3.F (.bl false) z := r3
                  unfold RepP at r3'
                  subst r3'
                  refine ⟨false, rfl, ?_⟩
                  rw [if_neg Bool.false_ne_true]
                  exact q3 w3 _ _ (LeW.refl _) hr3 (show RepP X.K w3.F (.bl false) _ from P_bl)
                · exact q3.elim
              · simp only [evE] at hq
                obtain ⟨q1, _, e2⟩ := bind_ok hq
                obtain ⟨q2, _, e3⟩ := bind_ok e2
                obtain ⟨q3, _, e4⟩ := bind_ok e3
                split at e4
                · obtain ⟨q4, _, e5⟩ := bind_ok e4
                  exact cmp_bl e5
                · cases e4
                  exact ⟨_, rfl⟩
                · cases e4
            · exact nope h
          · exact nope h
        | _ => exact nope h }
  | and a b ha hb =>
    have wa : ∀ {ct : Ct} {X : Cx} (G : Gd C ct k X) {vs : List Expr} {pos : Pos}, chE ct (.and a b) (.BoolOp .And vs pos) = true → tsE (.and a b) (.BoolOp .And vs pos) = true → PW X (.BoolOp .And vs pos) (tTm X.K C (.and a b)) := fun {ct X} G {vs pos} h ht => by
      rcases vs with _ | ⟨v, _ | ⟨w, _ | ⟨u, rest⟩⟩⟩
      · exact nope h
      · exact nope h
      · have h' : (chE ct a v && chE ct b w) = true := h
        have ht' : (tsE a v && tsE b w) = true := ht
        exact t_and (ha.t G (and1 h') (and1 ht')) (pw_and1 (hb.t G (and2 h') (and2 ht')))
      · have h' : (chE ct a v && chE ct b (.BoolOp .And (w :: u :: rest) pos)) = true := h
        have ht' : (tsE a v && tsE b (.BoolOp .And (w :: u :: rest) pos)) = true := ht
        exact t_and (ha.t G (and1 h') (and1 ht')) (hb.wa G (and2 h') (and2 ht'))
    exact {
      e := fun {ct X} G {x} h => by
        cases x with
        | BoolOp op vs pos =>
          cases op with
          | And =>
            rcases vs with _ | ⟨v, _ | ⟨w, _ | ⟨u, rest⟩⟩⟩
            · exact nope h
            · exact nope h
            · have h' : (chE ct a v && chE ct b w) = true := h
              exact c_and (ha.e G (and1 h')) (pe_one (hb.e G (and2 h')))
            · have h' : (chE ct a v && chE ct b (.BoolOp .And (w :: u :: rest) pos)) = true := h
              exact c_and (ha.e G (and1 h')) (hb.e G (and2 h'))
          | Or => exact nope h
        | _ => exact nope h
      t := fun {ct X} G {x} h ht => by
        cases x with
        | BoolOp op vs pos =>
          cases op with
          | And => exact (wa G h ht).pt
          | Or => exact nope h
        | _ => exact nope h
      wa := wa }
  | or a b ha hb =>
    have wo : ∀ {ct : Ct} {X : Cx} (G : Gd C ct k X) {vs : List Expr} {pos : Pos}, chE ct (.or a b) (.BoolOp .Or vs pos) = true → tsE (.or a b) (.BoolOp .Or vs pos) = true → PW X (.BoolOp .Or vs pos) (tTm X.K C (.or a b)) := fun {ct X} G {vs pos} h ht => by
      rcases vs with _ | ⟨v, _ | ⟨w, _ | ⟨u, rest⟩⟩⟩
      · exact nope h
      · exact nope h
      · have h' : (chE ct a v && chE ct b w) = true := h
        have ht' : (tsE a v && tsE b w) = true := ht
        exact t_or (ha.t G (and1 h') (and1 ht')) (pw_or1 (hb.t G (and2 h') (and2 ht')))
      · have h' : (chE ct a v && chE ct b (.BoolOp .Or (w :: u :: rest) pos)) = true := h
        have ht' : (tsE a v && tsE b (.BoolOp .Or (w :: u :: rest) pos)) = true := ht
        exact t_or (ha.t G (and1 h') (and1 ht')) (hb.wo G (and2 h') (and2 ht'))
    exact {
      e := fun {ct X} G {x} h => by
        cases x with
        | BoolOp op vs pos =>
          cases op with
          | Or =>
            rcases vs with _ | ⟨v, _ | ⟨w, _ | ⟨u, rest⟩⟩⟩
            · exact nope h
            · exact nope h
            · have h' : (chE ct a v && chE ct b w) = true := h
              exact c_or (ha.e G (and1 h')) (pe_one (hb.e G (and2 h')))
            · have h' : (chE ct a v && chE ct b (.BoolOp .Or (w :: u :: rest) pos)) = true := h
              exact c_or (ha.e G (and1 h')) (hb.e G (and2 h'))
          | And => exact nope h
        | _ => exact nope h
      t := fun {ct X} G {x} h ht => by
        cases x with
        | BoolOp op vs pos =>
          cases op with
          | Or => exact (wo G h ht).pt
          | And => exact nope h
        | _ => exact nope h
      wo := wo }
  | not a ha =>
    exact {
      e := fun {ct X} G {x} h => by
        cases x with
        | UnaryOp op x pos =>
          cases op with
          | Not => exact c_not (ha.e G h)
          | _ => exact nope h
        | _ => exact nope h
      t := fun {ct X} G {x} h ht => by
        cases x with
        | UnaryOp op x pos =>
          cases op with
          | Not => exact t_not (ha.t G h ht)
          | _ => exact nope h
        | _ => exact nope h }
  | ite t a b st sa sb =>
    have he : ∀ {ct : Ct} {X : Cx} (G : Gd C ct k X) {x : Expr}, chE ct (.ite t a b) x = true → PE X x (tE X.K C (.ite t a b)) := fun {ct X} G {x} h => by
      cases x with
      | IfExp c x y pos =>
        have h' : (chE ct t c && tsE t c && chE ct a x && chE ct b y) = true := h
        exact s_ite G (st.t G (and1 (and1 (and1 h'))) (and2 (and1 (and1 h')))) (sa.e G (and2 (and1 h'))) (sb.e G (and2 h'))
      | _ => exact nope h
    exact { e := he, t := fun {ct X} G {x} h ht => pt_plain ht (he G h) }
  | nil =>
    exact {
      l := fun {ct X} G {es} h => by
        cases es with
        | nil => exact a_nil
        | cons a b => exact nope h
      d := fun {ct X} G {ks vs pos} h => by
        cases ks with
        | nil =>
          cases vs with
          | nil => exact pps_nil
          | cons a b => exact nope h
        | cons a b => exact nope h
      j := fun {ct X} G {es} h => by
        cases es with
        | nil => exact .nil
        | cons a b => exact nope h
      o := fun {ct X} G {x} h => by
        cases x with
        | none => exact o_none
        | some a => exact nope h
      f := fun {ct X} G {es} h => by
        cases es with
        | nil => exact pts_if0
        | cons a b => exact nope h }
  | cons a l ha hl =>
    exact {
      l := fun {ct X} G {es} h => by
        cases es with
        | nil => exact nope h
        | cons x es =>
          have h' : (notStar x && chE ct a x && chL ct l es) = true := h
          exact a_cons (and1 (and1 h')) (ha.e G (and2 (and1 h'))) (hl.l G (and2 h'))
      j := fun {ct X} G {es} h => by
        cases es with
        | nil => exact nope h
        | cons x es =>
          cases x with
          | FormattedValue x kk sp pos =>
            cases sp with
            | none =>
              have h' : (decide (kk = -1) && chE ct a x && chJ ct l es) = true := h
              have e := of_decide_eq_true (and1 (and1 h'))
              subst e
              exact .cons (pe_fmt (ha.e G (and2 (and1 h')))) (hl.j G (and2 h'))
            | some _ => exact nope h
          | _ => exact nope h
      o := fun {ct X} G {x} h => by
        cases x with
        | none => exact nope h
        | some x => exact o_some (ha.e G h)
      hd := fun {ct X} G {x} h a' l' z => by
        cases z
        exact ha.e G h
      f := fun {ct X} G {es} h => by
        rcases es with _ | ⟨x, _ | ⟨y, es⟩⟩
        · exact nope h
        · have h' : (chE ct a x && tsE a x) = true := h
          exact pts_if1 (ha.t G (and1 h') (and2 h'))
        · exact nope h }
  | star a l ha hl =>
    exact {
      l := fun {ct X} G {es} h => by
        cases es with
        | nil => exact nope h
        | cons x es =>
          cases x with
          | Starred x p =>
            have h' : (chE ct a x && chL ct l es) = true := h
            exact a_star G.calm (ha.e G (and1 h')) (hl.l G (and2 h'))
          | _ => exact nope h
      j := fun {ct X} G {es} h => by
        cases es with
        | nil => exact nope h
        | cons x es =>
          cases x with
          | Constant c j p =>
            have h' : (chE ct a (.Constant c j p) && chJ ct l es) = true := h
            exact .cons (ha.e G (and1 h')) (hl.j G (and2 h'))
          | _ => exact nope h }
  | kv a b l ha hb hl =>
    exact {
      d := fun {ct X} G {ks vs pos} h => by
        cases ks with
        | nil => exact nope h
        | cons x ks =>
          cases x with
          | none => exact nope h
          | some x =>
            cases vs with
            | nil => exact nope h
            | cons y vs =>
              have h' : (chE ct a x && chE ct b y && chK ct l ks vs) = true := h
              exact pps_cons (ha.e G (and1 (and1 h'))) (hb.e G (and2 (and1 h'))) (hl.d G (and2 h')) }
  | tup l hl =>
    have he : ∀ {ct : Ct} {X : Cx} (G : Gd C ct k X) {x : Expr}, chE ct (.tup l) x = true → PE X x (tE X.K C (.tup l)) := fun {ct X} G {x} h => by
      cases x with
      | Tuple es j pos => exact c_tup (hl.l G h)
      | _ => exact nope h
    exact { e := he, t := fun {ct X} G {x} h ht => pt_plain ht (he G h) }
  | lst c l hl =>
    have he : ∀ {ct : Ct} {X : Cx} (G : Gd C ct k X) {x : Expr}, chE ct (.lst c l) x = true → PE X x (tE X.K C (.lst c l)) := fun {ct X} G {x} h => by
      cases x with
      | List es pos => exact c_lst (hl.l G h)
      | _ => exact nope h
    exact { e := he, t := fun {ct X} G {x} h ht => pt_plain ht (he G h) }
  | dic c l hl =>
    have he : ∀ {ct : Ct} {X : Cx} (G : Gd C ct k X) {x : Expr}, chE ct (.dic c l) x = true → PE X x (tE X.K C (.dic c l)) := fun {ct X} G {x} h => by
      cases x with
      | Dict ks vs pos =>
        have h' : (chK ct l ks vs && decide (ks.length ≤ 15)) = true := h
        obtain ⟨h1, h2, h3⟩ := chK_facts (and1 h')
        exact c_dic (hl.d G (and1 h')) h1 h2 (of_decide_eq_true (and2 h')) h3
      | _ => exact nope h
    exact { e := he, t := fun {ct X} G {x} h ht => pt_plain ht (he G h) }
  | lc c own tg it ifs elt si sf se =>
    have he : ∀ {ct : Ct} {X : Cx} (G : Gd C ct k X) {x : Expr}, chE ct (.lc c own tg it ifs elt) x = true → PE X x (tE X.K C (.lc c own tg it ifs elt)) := fun {ct X} G {x} h => by
      cases x with
      | ListComp x gs scope pos =>
        rcases gs with _ | ⟨⟨t, i, cs, ay⟩, _ | ⟨g', gs⟩⟩
        · exact nope h
        · have e : ay = 0 := of_decide_eq_true (and1 h)
          subst e
          obtain ⟨h1, h2, h3, h4, h5, h6, h7⟩ := lc_parts G si sf se (and2 h)
          exact PE.weak (pe_lc G.calm G.nd' h1 h2 h3 h4 h5 h6) fun σ H Q q => lc_read h7 q
        · exact nope h
      | _ => exact nope h
    exact { e := he, t := fun {ct X} G {x} h ht => pt_plain ht (he G h) }
  | lc2 c own tg it ifs tg1 it1 ifs1 elt => exact { }
  | dc c own tg it ifs ke elt si sf sk se =>
    have he : ∀ {ct : Ct} {X : Cx} (G : Gd C ct k X) {x : Expr}, chE ct (.dc c own tg it ifs ke elt) x = true → PE X x (tE X.K C (.dc c own tg it ifs ke elt)) := fun {ct X} G {x} h => by
      cases x with
      | DictComp x y gs scope pos =>
        rcases gs with _ | ⟨⟨t, i, cs, ay⟩, _ | ⟨g', gs⟩⟩
        · exact nope h
        · have e : ay = 0 := of_decide_eq_true (and1 h)
          subst e
          have h' : ((blkC ct.N ct.sc scope own && tgIn own tg && chI ct it i t && notSetE i && tgB (ct.blk scope) tg t && chIf (ct.blk scope) ifs cs && chE (ct.blk scope) ke x) && chE (ct.blk scope) elt y) = true := and2 h
          obtain ⟨h1, h2, h3, h4, h5, h6, h7⟩ := lc_parts G si sf sk (and1 h')
          exact PE.weak (pe_dc G.calm G.nd' h1 h2 h3 h4 h5 (fun s H D cl fp => se.e (G.blk scope s H D cl fp) (and2 h')) h6) fun σ H Q q => dc_read h7 q
        · exact nope h
      | _ => exact nope h
    exact { e := he, t := fun {ct X} G {x} h ht => pt_plain ht (he G h) }
  | sub a i ha hi =>
    have he : ∀ {ct : Ct} {X : Cx} (G : Gd C ct k X) {x : Expr}, chE ct (.sub a i) x = true → PE X x (tE X.K C (.sub a i)) := fun {ct X} G {x} h => by
      cases x with
      | Subscript x y pos =>
        have h' : (chE ct a x && chE ct i y && notSlice y) = true := h
        exact c_sub G (and2 h') (ha.e G (and1 (and1 h'))) (hi.e G (and2 (and1 h')))
      | _ => exact nope h
    exact { e := he, t := fun {ct X} G {x} h ht => pt_plain ht (he G h) }
  | slc a lo hi ha hlo hhi =>
    have he : ∀ {ct : Ct} {X : Cx} (G : Gd C ct k X) {x : Expr}, chE ct (.slc a lo hi) x = true → PE X x (tE X.K C (.slc a lo hi)) := fun {ct X} G {x} h => by
      cases x with
      | Subscript x y pos =>
        cases y with
        | Slice l u st p2 =>
          cases st with
          | none =>
            have h' : (chE ct a x && chO ct lo l && chO ct hi u) = true := h
            exact c_slc (ha.e G (and1 (and1 h'))) (hlo.o G (and2 (and1 h'))) (hhi.o G (and2 h'))
          | some _ => exact nope h
        | _ => exact nope h
      | _ => exact nope h
    exact { e := he, t := fun {ct X} G {x} h ht => pt_plain ht (he G h) }
  | att a f ha =>
    have he : ∀ {ct : Ct} {X : Cx} (G : Gd C ct k X) {x : Expr}, chE ct (.att a f) x = true → PE X x (tE X.K C (.att a f)) := fun {ct X} G {x} h => by
      cases x with
      | Attribute x g pos =>
        have h' : (chE ct a x && decide (f = g) && notSuper x) = true := h
        have e := of_decide_eq_true (and2 (and1 h'))
        subst e
        exact c_att G (and2 h') (ha.e G (and1 (and1 h')))
      | _ => exact nope h
    exact { e := he, t := fun {ct X} G {x} h ht => pt_plain ht (he G h) }
  | call f l hl =>
    have he : ∀ {ct : Ct} {X : Cx} (G : Gd C ct k X) {x : Expr}, chE ct (.call f l) x = true → PE X x (tE X.K C (.call f l)) := fun {ct X} G {x} h => by
      cases x with
      | Call fn es ks pos =>
        cases fn with
        | Name g p =>
          cases ks with
          | nil =>
            have h' : (gB ct f g && chL ct l es && es.all notStar) = true := h
            exact c_call G (and1 (and1 h')) (and2 h') (hl.l G (and2 (and1 h'))) (fun z => chL_nil (by rw [z] at h'; exact and2 (and1 h'))) fun env S => by simp only [evE]
          | cons _ _ => exact nope h
        | _ => exact nope h
      | _ => exact nope h
    exact { e := he, t := fun {ct X} G {x} h ht => pt_plain ht (he G h) }
  | make f l hl =>
    have he : ∀ {ct : Ct} {X : Cx} (G : Gd C ct k X) {x : Expr}, chE ct (.make f l) x = true → PE X x (tE X.K C (.make f l)) := fun {ct X} G {x} h => by
      cases x with
      | Call fn es ks pos =>
        cases fn with
        | Name g p =>
          cases ks with
          | nil =>
            have h' : (gB ct f g && chL ct l es && es.all notStar) = true := h
            exact c_call G (and1 (and1 h')) (and2 h') (hl.l G (and2 (and1 h'))) (fun z => chL_nil (by rw [z] at h'; exact and2 (and1 h'))) fun env S => by simp only [evE]
          | cons _ _ => exact nope h
        | _ => exact nope h
      | _ => exact nope h
    exact { e := he, t := fun {ct X} G {x} h ht => pt_plain ht (he G h) }
  | meth a m l ha hl =>
    have he : ∀ {ct : Ct} {X : Cx} (G : Gd C ct k X) {x : Expr}, chE ct (.meth a m l) x = true → PE X x (tE X.K C (.meth a m l)) := fun {ct X} G {x} h => by
      cases x with
      | Call fn es ks pos =>
        cases fn with
        | Attribute x g apos =>
          cases ks with
          | nil =>
            have h' : (chE ct a x && decide (m = g) && notSuper x && chL ct l es && es.all notStar && decide (es.length < 29) && (apos.endLine == pos.line)) = true := h
            have e := of_decide_eq_true (and2 (and1 (and1 (and1 (and1 (and1 h'))))))
            subst e
            exact c_meth G (and2 (and1 (and1 (and1 (and1 h'))))) (and2 (and1 (and1 h'))) (of_decide_eq_true (and2 (and1 h'))) (and2 h') (ha.e G (and1 (and1 (and1 (and1 (and1 (and1 h'))))))) (hl.l G (and2 (and1 (and1 (and1 h'))))) fun z => chL_nil (by rw [z] at h'; exact and2 (and1 (and1 (and1 h'))))
          | cons _ _ => exact nope h
        | _ => exact nope h
      | _ => exact nope h
    exact { e := he, t := fun {ct X} G {x} h ht => pt_plain ht (he G h) }
  | bm m a l ha hl =>
    have he : ∀ {ct : Ct} {X : Cx} (G : Gd C ct k X) {x : Expr}, chE ct (.bm m a l) x = true → PE X x (tE X.K C (.bm m a l)) := fun {ct X} G {x} h => by
      cases x with
      | Call fn es ks pos =>
        cases fn with
        | Attribute x g apos =>
          cases ks with
          | nil =>
            have h' : (bmOk m && !es.isEmpty && chE ct a x && decide (bmName m = g) && notSuper x && chL ct l es && es.all notStar && decide (es.length < 29) && (apos.endLine == pos.line)) = true := h
            have e := of_decide_eq_true (and2 (and1 (and1 (and1 (and1 (and1 h'))))))
            subst e
            cases es with
            | nil => exact nope (and2 (and1 (and1 (and1 (and1 (and1 (and1 (and1 h'))))))))
            | cons e es =>
              exact c_bm (and1 (and1 (and1 (and1 (and1 (and1 (and1 (and1 h')))))))) (and2 (and1 (and1 (and1 (and1 h'))))) (and2 (and1 (and1 h'))) (of_decide_eq_true (and2 (and1 h'))) (and2 h') (ha.e G (and2 (and1 (and1 (and1 (and1 (and1 (and1 h')))))))) (hl.l G (and2 (and1 (and1 (and1 h')))))
          | cons _ _ => exact nope h
        | _ => exact nope h
      | _ => exact nope h
    exact { e := he, t := fun {ct X} G {x} h ht => pt_plain ht (he G h) }
  | bf f l hl =>
    have he : ∀ {ct : Ct} {X : Cx} (G : Gd C ct k X) {x : Expr}, chE ct (.bf f l) x = true → PE X x (tE X.K C (.bf f l)) := fun {ct X} G {x} h => by
      cases x with
      | Call fn es ks pos =>
        cases fn with
        | Name g p =>
          rcases es with _ | ⟨e, _ | ⟨e', _ | ⟨e'', es⟩⟩⟩
          · cases f <;> exact nope h
          · cases ks with
            | nil =>
              have h' : (notIsStr f && gB ct (bfName f) g && chL ct l [e] && notStar e) = true := by cases f <;> exact h
              refine c_bf G (and2 (and1 (and1 h'))) (and2 h') (fun z => ?_) (hl.l G (and2 (and1 h')))
              rw [z] at h'
              exact nope (and1 (and1 (and1 h')))
            | cons _ _ => cases f <;> exact nope h
          · cases f with
            | isStr =>
              cases e' with
              | Name c pc =>
                cases ks with
                | nil =>
                  have h' : (gB ct "isinstance" g && gB ct "str" c && chL ct l [e] && notStar e) = true := h
                  have hl' := and2 (and1 h')
                  cases l with
                  | cons a l =>
                    have h3 : (notStar e && chE ct a e && chL ct l []) = true := hl'
                    have e3 := chL_nil (and2 h3)
                    subst e3
                    refine c_isStr G (and1 (and1 (and1 h'))) (and2 (and1 (and1 h'))) (and2 h') ?_
                    exact hl.hd G (and2 (and1 h3)) a .nil rfl
                  | star a l => cases e <;> first | exact nope hl' | exact nope (and2 h')
                  | _ => exact nope hl'
                | cons _ _ => exact nope h
              | _ => exact nope h
            | _ => exact nope h
          · cases f with
            | isStr => cases e' <;> exact nope h
            | _ => exact nope h
        | _ => cases f <;> exact nope h
      | _ => cases f <;> exact nope h
    exact {
      e := he
      t := fun {ct X} G {x} h ht => pt_plain ht (he G h)
      wa := fun {ct X} G {_ _} h _ => by cases f <;> exact nope h
      wo := fun {ct X} G {_ _} h _ => by cases f <;> exact nope h }
  | listC a ha =>
    have he : ∀ {ct : Ct} {X : Cx} (G : Gd C ct k X) {x : Expr}, chE ct (.listC a) x = true → PE X x (tE X.K C (.listC a)) := fun {ct X} G {x} h => by
      cases x with
      | Call fn es ks pos =>
        cases fn with
        | Name g p =>
          rcases es with _ | ⟨e, _ | ⟨e', es⟩⟩
          · exact nope h
          · cases ks with
            | nil =>
              have h' : (gB ct "list" g && chE ct a e && notStar e) = true := h
              exact c_listC G (and1 (and1 h')) (and2 h') (ha.e G (and2 (and1 h')))
            | cons _ _ => exact nope h
          · exact nope h
        | _ => exact nope h
      | _ => exact nope h
    exact { e := he, t := fun {ct X} G {x} h ht => pt_plain ht (he G h) }
  | listItems cell a ha =>
    have he : ∀ {ct : Ct} {X : Cx} (G : Gd C ct k X) {x : Expr}, chE ct (.listItems cell a) x = true → PE X x (tE X.K C (.listItems cell a)) := fun {ct X} G {x} h => by
      cases x with
      | Call fn es ks pos =>
        cases fn with
        | Name g p =>
          rcases es with _ | ⟨e, _ | ⟨e', es⟩⟩
          · exact nope h
          · cases ks with
            | nil =>
              cases e with
              | Call fn2 es2 ks2 cpos =>
                cases fn2 with
                | Attribute y f apos =>
                  cases es2 with
                  | nil =>
                    cases ks2 with
                    | nil =>
                      have h' : (gB ct "list" g && chE ct a y && decide (f = "items") && notSuper y && (apos.endLine == cpos.line)) = true := h
                      have ef : f = "items" := of_decide_eq_true (and2 (and1 (and1 h')))
                      subst ef
                      exact c_listItems G (and1 (and1 (and1 (and1 h')))) (and2 (and1 h')) (and2 h') (ha.e G (and2 (and1 (and1 (and1 h')))))
                    | cons _ _ => exact nope h
                  | cons _ _ => exact nope h
                | _ => exact nope h
              | _ => exact nope h
            | cons _ _ => cases e with
              | Call fn2 es2 ks2 cpos => cases fn2 <;> cases es2 <;> cases ks2 <;> exact nope h
              | _ => exact nope h
          · cases e with
            | Call fn2 es2 ks2 cpos => cases fn2 <;> cases es2 <;> cases ks2 <;> exact nope h
            | _ => exact nope h
        | _ => exact nope h
      | _ => exact nope h
    exact { e := he, t := fun {ct X} G {x} h ht => pt_plain ht (he G h) }
  | mx l hl =>
    have he : ∀ {ct : Ct} {X : Cx} (G : Gd C ct k X) {x : Expr}, chE ct (.mx l) x = true → PE X x (tE X.K C (.mx l)) := fun {ct X} G {x} h => by
      cases x with
      | Call fn es ks pos =>
        cases fn with
        | Name g p =>
          rcases es with _ | ⟨e, _ | ⟨e', _ | ⟨e'', es⟩⟩⟩
          · exact nope h
          · exact nope h
          · cases ks with
            | nil =>
              have h' : (gB ct "max" g && chL ct l [e, e'] && notStar e && notStar e') = true := h
              exact c_mx G (and1 (and1 (and1 h'))) (and2 (and1 h')) (and2 h') (hl.l G (and2 (and1 (and1 h'))))
            | cons _ _ => exact nope h
          · exact nope h
        | _ => exact nope h
      | _ => exact nope h
    exact { e := he, t := fun {ct X} G {x} h ht => pt_plain ht (he G h) }
  | has neg a b ha hb =>
    exact {
      e := fun {ct X} G {x} h => by
        cases x with
        | Compare l ps rs pos =>
          rcases ps with _ | ⟨p, _ | ⟨p', ps⟩⟩
          · exact nope h
          · rcases rs with _ | ⟨r, _ | ⟨r', rs⟩⟩
            · exact nope h
            · have h' : (hasB neg p && chE ct a l && chE ct b r && !behindInMarks p r) = true := h
              exact c_has G (of_decide_eq_true (and1 (and1 (and1 h')))) (bnot (and2 h')) (ha.e G (and2 (and1 (and1 h')))) (hb.e G (and2 (and1 h')))
            · exact nope h
          · rcases rs with _ | ⟨r, _ | ⟨r', rs⟩⟩ <;> exact nope h
        | _ => exact nope h
      t := fun {ct X} G {x} h ht => by
        cases x with
        | Compare l ps rs pos =>
          rcases ps with _ | ⟨p, _ | ⟨p', ps⟩⟩
          · exact nope h
          · rcases rs with _ | ⟨r, _ | ⟨r', rs⟩⟩
            · exact nope h
            · have h' : (hasB neg p && chE ct a l && chE ct b r && !behindInMarks p r) = true := h
              have e : (if neg = true then CmpOp.NotIn else CmpOp.In) = p := of_decide_eq_true (and1 (and1 (and1 h')))
              subst e
              refine t_val (pt_cmpR (op_has G neg) (ha.e G (and2 (and1 (and1 h')))) (hb.e G (and2 (and1 h'))) (bnot (and2 h'))) (fun σ H Q q => has_read q) fun env S q hq => ?_
              simp only [evE] at hq
              obtain ⟨q1, _, e2⟩ := bind_ok hq
              obtain ⟨q2, _, e3⟩ := bind_ok e2
              split at e3
              · split at e3
                · obtain ⟨q3, _, e4⟩ := bind_ok e3
                  split at e4
                  · cases e4
                    exact ⟨_, rfl⟩
                  · cases e4
                · cases e3
              · cases e3
            · exact nope h
          · rcases rs with _ | ⟨r, _ | ⟨r', rs⟩⟩ <;> exact nope h
        | _ => exact nope h }
  | it a ha =>
    exact { i := fun {ct X} G {x tg} h => i_it (ha.e G h) }
  | rng l hl =>
    exact {
      i := fun {ct X} G {x tg} h => by
        cases x with
        | Call fn es ks pos =>
          cases fn with
          | Name g p =>
            rcases es with _ | ⟨e, _ | ⟨e', _ | ⟨e'', es⟩⟩⟩
            · exact nope h
            · cases ks with
              | nil =>
                have h' : (gB ct "range" g && chL ct l [e] && notStar e) = true := h
                exact i_rng1 G (and1 (and1 h')) (and2 h') (and2 (and1 h')) (hl.l G (and2 (and1 h')))
              | cons _ _ => exact nope h
            · cases ks with
              | nil =>
                have h' : (gB ct "range" g && chL ct l [e, e'] && notStar e && notStar e') = true := h
                exact i_rng2 G (and1 (and1 (and1 h'))) (and2 (and1 h')) (and2 h') (and2 (and1 (and1 h'))) (hl.l G (and2 (and1 (and1 h'))))
              | cons _ _ => exact nope h
            · exact nope h
          | _ => exact nope h
        | _ => exact nope h }
  | vals a ha =>
    exact {
      i := fun {ct X} G {x tg} h => by
        cases x with
        | Call fn es ks pos =>
          cases fn with
          | Attribute x g apos =>
            cases es with
            | nil =>
              cases ks with
              | nil =>
                have h' : (chE ct a x && decide (g = "values") && notSuper x && (apos.endLine == pos.line)) = true := h
                have e := of_decide_eq_true (and2 (and1 (and1 h')))
                subst e
                exact i_vals (and2 (and1 h')) (and2 h') (ha.e G (and1 (and1 (and1 h'))))
              | cons _ _ => exact nope h
            | cons _ _ => exact nope h
          | _ => exact nope h
        | _ => exact nope h }
  | items a ha =>
    exact {
      i := fun {ct X} G {x tg} h => by
        cases x with
        | Call fn es ks pos =>
          cases fn with
          | Attribute x g apos =>
            cases es with
            | nil =>
              cases ks with
              | nil =>
                have h' : (chE ct a x && decide (g = "items") && notSuper x && (apos.endLine == pos.line) && isTupE tg) = true := h
                have e := of_decide_eq_true (and2 (and1 (and1 (and1 h'))))
                subst e
                cases tg with
                | Tuple es j p => exact i_items (and2 (and1 (and1 h'))) (and2 (and1 h')) (ha.e G (and1 (and1 (and1 (and1 h')))))
                | _ => exact nope (and2 h')
              | cons _ _ => exact nope h
            | cons _ _ => exact nope h
          | _ => exact nope h
        | _ => exact nope h }
  | enum a ha => exact { }
  | fstr l hl =>
    have he : ∀ {ct : Ct} {X : Cx} (G : Gd C ct k X) {x : Expr}, chE ct (.fstr l) x = true → PE X x (tE X.K C (.fstr l)) := fun {ct X} G {x} h => by
      cases x with
      | JoinedStr vs pos =>
        rcases vs with _ | ⟨v, _ | ⟨w, vs⟩⟩
        · exact nope h
        · exact nope h
        · exact c_fstr (hl.j G h)
      | _ => exact nope h
    exact { e := he, t := fun {ct X} G {x} h ht => pt_plain ht (he G h) }
  | pf f a ha =>
    have he : ∀ {ct : Ct} {X : Cx} (G : Gd C ct k X) {x : Expr}, chE ct (.pf f a) x = true → PE X x (tE X.K C (.pf f a)) := fun {ct X} G {x} h => by
      cases x with
      | Call fn es ks pos =>
        cases fn with
        | Name g p =>
          cases ks with
          | nil =>
            have h' : (pfHead ct f g es && (match pfArg f es with
              | some e => chE ct a e && notStar e
              | none => false)) = true := h
            have h2 := and2 h'
            cases e : pfArg f es with
            | none =>
              rw [e] at h2
              exact nope h2
            | some z =>
              rw [e] at h2
              exact c_pf G (and1 h') e (and2 h2) (ha.e G (and1 h2))
          | cons _ _ => exact nope h
        | _ => exact nope h
      | _ => exact nope h
    exact { e := he, t := fun {ct X} G {x} h ht => pt_plain ht (he G h) }
  | get a b ha hb =>
    have he : ∀ {ct : Ct} {X : Cx} (G : Gd C ct k X) {x : Expr}, chE ct (.get a b) x = true → PE X x (tE X.K C (.get a b)) := fun {ct X} G {x} h => by
      cases x with
      | Call fn es ks pos =>
        cases fn with
        | Attribute x g apos =>
          rcases es with _ | ⟨e, _ | ⟨e', es⟩⟩
          · exact nope h
          · cases ks with
            | nil =>
              have h' : (chE ct a x && decide (g = "get") && notSuper x && chE ct b e && notStar e && (apos.endLine == pos.line)) = true := h
              have eg : g = "get" := of_decide_eq_true (and2 (and1 (and1 (and1 (and1 h')))))
              subst eg
              exact c_get G (and2 (and1 (and1 (and1 h')))) (and2 (and1 h')) (and2 h') (ha.e G (and1 (and1 (and1 (and1 (and1 h')))))) (hb.e G (and2 (and1 (and1 h'))))
            | cons _ _ => exact nope h
          · exact nope h
        | _ => exact nope h
      | _ => exact nope h
    exact { e := he, t := fun {ct X} G {x} h ht => pt_plain ht (he G h) }
  | get2 a b d ha hb hd =>
    have he : ∀ {ct : Ct} {X : Cx} (G : Gd C ct k X) {x : Expr}, chE ct (.get2 a b d) x = true → PE X x (tE X.K C (.get2 a b d)) := fun {ct X} G {x} h => by
      cases x with
      | Call fn es ks pos =>
        cases fn with
        | Attribute x g apos =>
          rcases es with _ | ⟨e, _ | ⟨e', _ | ⟨e'', es⟩⟩⟩
          · exact nope h
          · exact nope h
          · cases ks with
            | nil =>
              have h' : (chE ct a x && decide (g = "get") && notSuper x && chE ct b e && chE ct d e' && notStar e && notStar e' && (apos.endLine == pos.line)) = true := h
              have eg : g = "get" := of_decide_eq_true (and2 (and1 (and1 (and1 (and1 (and1 (and1 h')))))))
              subst eg
              exact c_get2 G (and2 (and1 (and1 (and1 (and1 (and1 h')))))) (and2 (and1 (and1 h'))) (and2 (and1 h')) (and2 h') (ha.e G (and1 (and1 (and1 (and1 (and1 (and1 (and1 h')))))))) (hb.e G (and2 (and1 (and1 (and1 (and1 h')))))) (hd.e G (and2 (and1 (and1 (and1 h')))))
            | cons _ _ => exact nope h
          · exact nope h
        | _ => exact nope h
      | _ => exact nope h
    exact { e := he, t := fun {ct X} G {x} h ht => pt_plain ht (he G h) }
end LS

set_option Elab.async false
set_option linter.all false
set_option maxRecDepth 100000
set_option maxHeartbeats 1000000
/-! LS14: which statements a small term is of; what they ask beside. -/
namespace LS
open PySem PySem.Spec PyProof.Rows L2
def blkKind (sc : Scope) : ScopeKind := if sc.kind.isAnnotationScope then .function else sc.kind
def isStarE : Expr → Bool
  | .Starred _ _ => true
  | _ => false
def nmOf (sc : Scope) (line : Nat) : Expr → Option Str
  | .Name id pos => if (sc.names.lookup id == some .local && pos.line == line) = true then some id else none
  | _ => none
def swP (sc : Scope) (ts vs : List Expr) : Option (Option (List Str)) :=
  if (!(ts.length == 2 || ts.length == 3) || vs.length != ts.length || blkKind sc != .function) = true then some none
  else if (vs.any isStarE) = true then some none
  else if ((ts.filterMap (nmOf sc ((ts.head?.map (·.pos.line)).getD 0))).length != ts.length || (ts.filterMap (nmOf sc ((ts.head?.map (·.pos.line)).getD 0))).eraseDups.length != (ts.filterMap (nmOf sc ((ts.head?.map (·.pos.line)).getD 0))).length) = true then some none
  else if (vs.all (foldedForSure 8)) = true then some none
  else if (vs.all (constantsAlone 8)) = true then none
  else some (some (ts.filterMap (nmOf sc ((ts.head?.map (·.pos.line)).getD 0))))
theorem any_star (vs : List Expr) (f : Expr → Bool) (h : ∀ e, f e = isStarE e) : vs.any f = vs.any isStarE := by
  rw [show f = isStarE from funext h]
theorem fm_names (sc : Scope) (l : Nat) (ts : List Expr) (f : Expr → Option Str) (h : ∀ e, f e = nmOf sc l e) : ts.filterMap f = ts.filterMap (nmOf sc l) := by
  rw [show f = nmOf sc l from funext h]
theorem swP_ok {sc : Scope} {ts vs : List Expr} {r : Option (List Str)} {env : PySem.Env} {k k' : Nat} {p p' : Pos} (he : env.scope = sc) (h : swP sc ts vs = some r) : swappedStores [.Tuple ts k p] (.Tuple vs k' p') env = pure r := by
  subst he
  unfold swP at h
  unfold swappedStores
  dsimp only
  have eb : env.blockKind = blkKind env.scope := rfl
  rw [eb, any_star vs _ (fun e => by cases e <;> rfl), fm_names env.scope ((ts.head?.map (·.pos.line)).getD 0) ts _ (fun e => by cases e <;> rfl)]
  split at h
  · rename_i h1
    cases h
    rw [if_pos h1]
  · rename_i h1
    rw [if_neg h1]
    split at h
    · rename_i h2
      cases h
      rw [if_pos h2]
    · rename_i h2
      rw [if_neg h2]
      split at h
      · rename_i h3
        cases h
        rw [if_pos h3]
      · rename_i h3
        split at h
        · rename_i h4
          cases h
          rw [if_neg h3, if_pos h4]
        · rename_i h4
          split at h
          · cases h
          · rename_i h5
            cases h
            rw [if_neg h3, if_neg h4, if_neg h5]
def swB (sc : Scope) (v : Expr) (x : Str) (px : Pos) : Bool := match v with
  | .ListComp _ _ s _ => blkKind sc == .function && sc.names.lookup x == some .local && px.line == v.pos.line && !(s.names.any fun (n, k) => n == x && (k == .local || k == .cell))
  | .SetComp _ _ s _ => blkKind sc == .function && sc.names.lookup x == some .local && px.line == v.pos.line && !(s.names.any fun (n, k) => n == x && (k == .local || k == .cell))
  | .DictComp _ _ _ s _ => blkKind sc == .function && sc.names.lookup x == some .local && px.line == v.pos.line && !(s.names.any fun (n, k) => n == x && (k == .local || k == .cell))
  | _ => false
theorem swB_ok {sc : Scope} {v : Expr} {x : Str} {px : Pos} {l : Nat} {env : PySem.Env} (he : env.scope = sc) : swapsWith v (some (.Name x px)) l env = pure (swB sc v x px) := by
  subst he
  unfold swapsWith swB
  cases v <;> rfl
def notNameE : Expr → Bool
  | .Name _ _ => false
  | _ => true
theorem sw_nn {v t : Expr} {l : Nat} {env : PySem.Env} (h : notNameE t = true) : swapsWith v (some t) l env = pure false := by
  cases t <;> first
    | exact nope h
    | (cases v <;> rfl)
theorem sole_eq {t v : Expr} {l : Nat} {env : PySem.Env} : swapsWithSole [t] v l env = swapsWith v (some t) l env := rfl
theorem stores_none {t v : Expr} {env : PySem.Env} (h : (isTupE t && isTupE v) = false) (hl : ∀ es p, t ≠ .List es p) : swappedStores [t] v env = pure none := by
  unfold swappedStores
  cases t <;> first
    | rfl
    | exact absurd rfl (hl _ _)
    | (cases v <;> first | rfl | cases h)

/-! ### name = {..} on one line -/
theorem ps_setDc {X : Cx} {i : Nat} {y : Str} {py : Pos} {kx vx tg iter : Expr} {ifs : List Expr} {scope : Scope} {own : List (Str × Nat)} {pos spos : Pos} {wi : TI} {g : TG} {tt : TT} {tk tv : TE} (hc : X.calm = true) (hN : X.N.Nodup) (hy : X.N[i]? = some y) (hyl : X.env.scope.names.lookup y = some .local)
    (hsw : swapsWith (.DictComp kx vx [⟨tg, iter, ifs, 0⟩] scope pos) (some (.Name y py)) spos.line X.env = pure true) (hi : PI X tg iter wi) (ok : BlkOk X.N X.env.scope scope own)
    (hg : ∀ (s : Shared) (H : Hp) (C : Addr) (cl : List (Str × Addr)) (fp : List Addr), PG (X.blk s H scope (compEnvC scope cl C X.env) fp) tg g) (ht : ∀ (s : Shared) (H : Hp) (C : Addr) (cl : List (Str × Addr)) (fp : List Addr), PTs (X.blk s H scope (compEnvC scope cl C X.env) fp) ifs tt)
    (hk : ∀ (s : Shared) (H : Hp) (C : Addr) (cl : List (Str × Addr)) (fp : List Addr), PE (X.blk s H scope (compEnvC scope cl C X.env) fp) kx tk)
    (he : ∀ (s : Shared) (H : Hp) (C : Addr) (cl : List (Str × Addr)) (fp : List Addr), PE (X.blk s H scope (compEnvC scope cl C X.env) fp) vx tv) (hs : ∀ x, foldedSetIterable iter X.env x = pure x) :
    PS X (.Assign [.Name y py] (.DictComp kx vx [⟨tg, iter, ifs, 0⟩] scope pos) spos) (tAsg (tDc wi g tt tk tv (own.map (·.2))) (gName i)) := by
  refine ⟨fun pins s σ H D I h => ?_⟩
  rw [exec_Assign_Name_used _ _ _ _ hsw]
  refine wpAny_bind (wpAny_standAt (wpAny_bind ?_))
  show wpAny _ X.A (do let _ ← comprehension (.DictComp kx vx [⟨tg, iter, ifs, 0⟩] scope pos) scope X.env (firstIterPos [⟨tg, iter, ifs, 0⟩] pos) newDict false (eval iter X.env) (some (assign (.Name y py) X.env))) _ _ s
  have h : tDc wi g tt tk tv (own.map (·.2)) σ H (fun x H1 => gName i x σ H1 D.nx) := h
  refine wpAny_bind (thn (dc_core (Qf := fun _ s' => SP X pins D .next s') hc hN I hi ok hg ht hk he hs h fun L C s' m H' I' q hn f => ?_) fun _ s' hq => wpAny_pure (wpAny_pure hq))
  show wpAny _ _ (assign (.Name y py) X.env (.ref L)) _ _ _
  refine wpAny_assign_Name (store_ok2 (v := V.ref L) I' hN hy (.inl hyl) rfl (fun s2 I2 ⟨a, sb, ha⟩ => ?_) (.inr hyl))
  obtain ⟨f0, f1, f2, f3, f4, f5⟩ := f
  have haC : C ≠ a := by
    rcases ha with z | z
    · rw [z]; exact f1
    · exact fun e => f4 y a z e.symm
  refine ⟨m, hn.sameBut sb haC, fun h3 sb3 => ?_⟩
  exact ⟨_, H', I2.turned (t' := s2.toks) (fun b o hb e => (sb3.2 b hb).trans e) f0 f1 f3 f4 f5, q⟩

/-! ### the checker of statements -/
def lcB (sc : Scope) (x : Str) : Bool := match sc.names.lookup x with
  | some .local => true
  | _ => false
theorem lcB_ok {sc : Scope} {x : Str} (h : lcB sc x = true) : sc.names.lookup x = some .local := by
  unfold lcB at h
  split at h
  · assumption
  · cases h
def notListE : Expr → Bool
  | .List _ _ => false
  | _ => true
def parB (ct : Ct) (is : List Nat) (l : E) (ts vs : List Expr) : Bool := match is, ts, vs with
  | [i, j], [.Name x px, .Name y py], [a, b] => nmB ct.N i x && nmB ct.N j y && decide (i ≠ j) && lcB ct.sc x && lcB ct.sc y && chL ct l [a, b] && decide (swP ct.sc [.Name x px, .Name y py] [a, b] = some (some [x, y]))
  | _, _, _ => false
/-- .. that is not swapped -/
def parN (ct : Ct) (is : List Nat) (l : E) (ts vs : List Expr) : Bool := tgB.go ct is ts && chL ct l vs && decide (is.length ≤ 15) && decide (swP ct.sc ts vs = some none)
mutual
def chS (ct : Ct) : S → Stmt → Bool
  | .expr e, .Expr x _ => chE ct e x && notComp x
  | .ret e, .Return (some x) _ => chE ct e x
  | .ret (.lit .non), .Return none _ => true
  | .pass, .Pass _ => true
  | .brk, .Break _ => true
  | .cnt, .Continue _ => true
  | .set i e, .Assign [.Name x px] v _ => nmB ct.N i x && locB ct x && chE ct e v && (!swB ct.sc v x px || lcB ct.sc x)
  | .setT is e, .Assign [.Tuple ts _ _] v _ => tgB.go ct is ts && chE ct e v && !isTupE v && notComp v
  | .par is l, .Assign [.Tuple ts _ _] (.Tuple vs _ _) _ => parB ct is l ts vs || parN ct is l ts vs
  | .sub o i e, .Assign [.Subscript x y _] v _ => chE ct o x && chE ct i y && chE ct e v && notSlice y
  | .fld o f e, .Assign [.Attribute x g _] v _ => chE ct o x && decide (f = g) && chE ct e v
  | .ite t a b, .If c x y _ => chE ct t c && tsE t c && chSs ct a x && chSs ct b y
  | .whl t a, .While c x [] _ => chE ct t c && tsE t c && chSs ct a x
  | .for_ tg it a, .For t i x [] _ => tgB ct tg t && chI ct it i t && notSetE i && chSs ct a x
  | .raise _ _, .Raise _ _ _ => true
  | _, _ => false
def chSs (ct : Ct) : S → List Stmt → Bool
  | .nil, [] => true
  | .cons a r, x :: xs => chS ct a x && chSs ct r xs
  | _, _ => false
end
end LS

set_option Elab.async false
set_option linter.all false
set_option maxRecDepth 100000
set_option maxHeartbeats 1000000
/-! LS15: statements. -/
namespace LS
open PySem PySem.Spec PyProof.Rows L2

def RdS (K : PySem.W.Frag) (w : Wd) (r : RS) (D : Ends) : Prop := match r with
  | .nx env S => ∀ w' σ' H', LeW w w' → HRel K S w' H' → EnvRel K w' env σ' → D.nx σ' H'
  | .ret x S => ∀ w' v H', LeW w w' → HRel K S w' H' → RepW K w' x v → D.rt v H'
  | .bk env S => ∀ w' σ' H', LeW w w' → HRel K S w' H' → EnvRel K w' env σ' → D.bk σ' H'
  | .ct env S => ∀ w' σ' H', LeW w w' → HRel K S w' H' → EnvRel K w' env σ' → D.ct σ' H'
  | .ex _ _ _ _ => False
  | .no => False
theorem RdS.up {K : PySem.W.Frag} {w w1 : Wd} {r : RS} {D : Ends} (h : RdS K w r D) (l : LeW w w1) : RdS K w1 r D := by
  cases r with
  | nx env S => exact fun w' σ' H' a b c => h w' σ' H' (l.trans a) b c
  | ret x S => exact fun w' σ' H' a b c => h w' σ' H' (l.trans a) b c
  | bk env S => exact fun w' σ' H' a b c => h w' σ' H' (l.trans a) b c
  | ct env S => exact fun w' σ' H' a b c => h w' σ' H' (l.trans a) b c
  | ex _ _ _ _ => exact h
  | no => exact h
def MidS {α β : Type} (K : PySem.W.Frag) (rel : Wd → α → β → Prop) (w : Wd) (k : α × Cells → RS) (D : Ends) : β → Hp → Prop := fun v H1 => ∃ w1 x S1, LeW w w1 ∧ HRel K S1 w1 H1 ∧ rel w1 x v ∧ RdS K w1 (k (x, S1)) D
theorem RdS.step {α β : Type} {K : PySem.W.Frag} {rel : Wd → α → β → Prop} {w : Wd} {env : Env} {m : R (α × Cells)} {k : α × Cells → RS} {D : Ends} (h : RdS K w (lift env m k) D) : RdG K rel w m (MidS K rel w k D) := by
  cases m with
  | ok q => exact fun w' v H' a b c => ⟨w', q.1, q.2, a, b, c, RdS.up (show RdS K w (k q) D from h) a⟩
  | ex _ _ _ => exact h
  | no => exact h
theorem RdS.lift0 {α : Type} {K : PySem.W.Frag} {w : Wd} {env : Env} {m : R α} {k : α → RS} {D : Ends} (h : RdS K w (lift env m k) D) : ∃ a, m = .ok a ∧ RdS K w (k a) D := by
  cases m with
  | ok q => exact ⟨q, rfl, h⟩
  | ex _ _ _ => exact h.elim
  | no => exact h.elim
def tSm (K : PySem.W.Frag) (C : Cn) (s : S) : TS := fun D σ H => ∃ w env S, HRel K S w H ∧ EnvRel K w env σ ∧ RdS K w (exS C s env S) D
theorem PSs.weak {X : Cx} {e : List Stmt} {t t' : TS} (h : PSs X e t) (k : ∀ D σ H, t' D σ H → t D σ H) : PSs X e t' := ⟨fun pins s σ H D I q => h.run pins s σ H D I (k D σ H q)⟩
/-- a field set -/
theorem RepWk.putF {K : PySem.W.Frag} {w : Wd} {f : Str} {p : W} {z : V} (hp : RepW K w p z) : ∀ {xs : List (Str × W)} {vs : List (Str × V)}, RepWk K w xs vs → RepWk K w (setF f p xs) (L2.putF f z vs)
  | [], _, .nil => .cons ⟨rfl, hp⟩ .nil
  | (g, x) :: xs, (g', y) :: ys, .cons r t => by
    obtain ⟨rfl, r⟩ := r
    unfold setF L2.putF
    simp only
    by_cases e : g = f
    · rw [if_pos e, if_pos e]
      exact .cons ⟨rfl, hp⟩ t
    · rw [if_neg e, if_neg e]
      exact .cons ⟨rfl, r⟩ (RepWk.putF hp t)
theorem set_rep {K : PySem.W.Frag} {w : Wd} {x : W} {v : V} (r : RepW K w x v) : ∀ {xs : List W} {vs : List V} (j : Nat), RepWs K w xs vs → RepWs K w (xs.set j x) (vs.set j v)
  | _, _, _, .nil => .nil
  | _, _, 0, .cons _ t => .cons r t
  | _, _, j + 1, .cons q t => .cons q (set_rep r j t)
def rAnySet (X : Cx) : TSet := fun o i v H Q => rSetL o i v H Q ∨ rSetD o i v H Q
theorem set_any {X : Cx} (hu : X.A.units + 1 < cLine) : PSet X (rAnySet X) := fun pins s σ H o i v ov iv u Q I ro ri rv h => by
  rcases h with h | h
  · exact set_list pins s σ H o i v ov iv u Q I ro ri rv h
  · exact set_dict hu pins s σ H o i v ov iv u Q I ro ri rv h
theorem setSub_snd {X : Cx} {S S' : Cells} {w : Wd} {H : Hp} {o i e : W} {ov iv ev : V} (hr : HRel X.K S w H) (ro : RepW X.K w o ov) (ri : RepW X.K w i iv) (re : RepW X.K w e ev) (h : setSub o i e S = .ok S') {Q : Hp → Prop}
    (q : ∀ H', HRel X.K S' w H' → Q H') : rAnySet X ov iv ev H Q := by
  unfold setSub at h
  split at h
  · rename_i n p
    obtain ⟨ad, hn, rfl⟩ := ro
    split at h
    · rename_i xs i hS
      split at h
      · rename_i j hj
        unfold write at h
        split at h
        · rename_i hb
          cases h
          rcases hr.cell n _ ad hS hn with z | ⟨hF, vs, ho, rr, z⟩
          · cases z
          · have e1 := Paired.length rr
            have ri' : RepP X.K w.F (.int i) iv := ri
            unfold RepP at ri'
            subst ri'
            refine .inl ⟨ad, vs, i, j, rfl, rfl, ho, by rw [← e1]; exact hj, q _ (hr.write (o := .lst (vs.set j ev)) hn hF hb ⟨_, upd_same, set_rep re j rr, by rw [List.length_set]; exact z⟩)⟩
        · cases h
      · cases h
    · rename_i kvs pp hS
      split at h
      · rename_i key hk
        split at h
        · rename_i hl
          unfold write at h
          split at h
          · rename_i hb
            cases h
            rcases hr.cell n _ ad hS hn with z | ⟨hF, vs, ho, rr, z⟩
            · cases z
            · have e1 := Paired.length rr
              have hl2 : vs.length < lim := by rw [← e1]; exact hl
              have := lim_le
              have hz : (putK vs key ev).length ≤ sizeLine := by
                have := putK_le (kvs := vs) (k := key) (v := ev)
                omega
              have ek := key_rep (show RepP X.K w.F _ iv from ri) hk
              subst ek
              exact .inr ⟨ad, _, rfl, DPut.k ho (by omega), q _ (hr.write hn hF hb ⟨_, upd_same, RepWk.put re rr, hz⟩)⟩
          · cases h
        · cases h
      · cases h
    · cases h
  · cases h
structure SndS (C : Cn) (k : Nat) (z : S) : Prop where
  s : ∀ {ct : Ct} {X : Cx} (G : Gd C ct k X) (hp : PassesOwn (model X.prog X.w) X.A X.env X.xe) {st : Stmt}, chS ct z st = true → PS X st (tSm X.K C z) := by exact fun {_ _} _ _ {_} h => nope h
  ss : ∀ {ct : Ct} {X : Cx} (G : Gd C ct k X) (hp : PassesOwn (model X.prog X.w) X.A X.env X.xe) {sts : List Stmt}, chSs ct z sts = true → PSs X sts (tSm X.K C z) := by exact fun {_ _} _ _ {_} h => nope h
section
variable {X : Cx} {C : Cn} {ct : Ct} {k : Nat} {pos : Pos}
theorem s_while {t : E} {b : S} {c : Expr} {x : List Stmt} (hp : PassesOwn (model X.prog X.w) X.A X.env X.xe) (ht : PT X c (tTm X.K C t)) (hb : PSs X x (tSm X.K C b)) : PS X (.While c x [] pos) (tSm X.K C (.whl t b)) := by
  refine PS.weak (ps_while hp ht hb) fun D σ H q => ?_
  obtain ⟨w, env, S, hr, he, q⟩ := q
  simp only [exS] at q
  refine ⟨fun m σ H => ∃ w' env' S', HRel X.K S' w' H ∧ EnvRel X.K w' env' σ ∧ RdS X.K w' (whileN (evT C t) (exS C b) m env' S') D, ⟨C.g.fu, w, env, S, hr, he, q⟩, ?_⟩
  rintro m σ H ⟨w', env', S', hr', he', q'⟩
  cases m with
  | zero => exact q'.elim
  | succ m =>
    unfold whileN at q'
    refine ⟨w', env', S', hr', he', (RdS.step (rel := relB) q').imp fun bb H1 h1 => ?_⟩
    obtain ⟨w1, b1, S1, l1, hr1, r1, q1⟩ := h1
    cases r1
    simp only at q1
    cases bb with
    | true =>
      rw [if_pos rfl] at q1 ⊢
      refine ⟨fun σ' H' => ∃ w' env' S', HRel X.K S' w' H' ∧ EnvRel X.K w' env' σ' ∧ RdS X.K w' (whileN (evT C t) (exS C b) m env' S') D, fun σ' H' h => ⟨m, by omega, h⟩, w1, env', S1, hr1, he'.mono l1, ?_⟩
      cases hx : exS C b env' S1 with
      | nx e s =>
        rw [hx] at q1
        exact fun w' σ' H' a b c => ⟨w', e, s, b, c, q1.up a⟩
      | ct e s =>
        rw [hx] at q1
        exact fun w' σ' H' a b c => ⟨w', e, s, b, c, q1.up a⟩
      | bk e s =>
        rw [hx] at q1
        exact q1
      | ret e s =>
        rw [hx] at q1
        exact q1
      | ex _ _ _ _ =>
        rw [hx] at q1
        exact q1
      | no =>
        rw [hx] at q1
        exact q1
    | false =>
      rw [if_neg Bool.false_ne_true] at q1 ⊢
      exact q1 w1 σ H1 (LeW.refl _) hr1 (he'.mono l1)
theorem s_for (G : Gd C ct k X) {tg : Tg} {it : E} {b : S} {t i : Expr} {x : List Stmt} (hp : PassesOwn (model X.prog X.w) X.A X.env X.xe) (hi : PI X t i (tIm X.K C it)) (hg : PG X t (tG X.K tg)) (hs : notSetE i = true) (hb : PSs X x (tSm X.K C b)) : PS X (.For t i x [] pos) (tSm X.K C (.for_ tg it b)) := by
  refine PS.weak (ps_for hp G.calm hi hg hb (folded_ns hs)) fun D σ H q => ?_
  obtain ⟨w, env, S, hr, he, q⟩ := q
  simp only [exS] at q
  refine ⟨w, env, S, hr, he, (RdS.step (rel := ItOk X.K) q).imp fun J H1 h1 => ?_⟩
  obtain ⟨w1, I, S1, l1, hr1, hI, q1⟩ := h1
  cases I with
  | st xs =>
    refine ⟨fun i m σ H => m + i = xs.length ∧ ∃ w' env' S', LeW w1 w' ∧ HRel X.K S' w' H ∧ EnvRel X.K w' env' σ ∧ RdS X.K w' (forL (exS C b) tg (xs.drop i) env' S') D, ⟨xs.length, by simp, w1, env, S1, LeW.refl _, hr1, he.mono l1, q1⟩, ?_⟩
    rintro i m σ H ⟨hm, w', env', S', lw, hr', he', el⟩
    obtain ⟨item, stop⟩ := hI w' S' H i lw hr'
    cases hx : xs[i]? with
    | none =>
      have hi := List.getElem?_eq_none_iff.mp hx
      rw [List.drop_eq_nil_of_le hi] at el
      exact .inl ⟨stop (by omega), el w' σ H (LeW.refl _) hr' he'⟩
    | some x =>
      have hi := noneLt hx
      have hd : xs.drop i = x :: xs.drop (i + 1) := by
        rw [List.drop_eq_getElem_cons hi]
        congr 1
        rw [List.getElem?_eq_getElem hi] at hx
        cases hx
        rfl
      rw [hd] at el
      obtain ⟨go, y⟩ := item x hx
      refine .inr ⟨go, fun σ' H' => ∃ w'' env'' S'', LeW w1 w'' ∧ HRel X.K S'' w'' H' ∧ EnvRel X.K w'' env'' σ' ∧ RdS X.K w'' (forL (exS C b) tg (xs.drop (i + 1)) env'' S'') D, fun σ' H' h => ⟨m - 1, by omega, by omega, h⟩, fun v H' yl => ?_⟩
      obtain ⟨w2, l2, hr2, r2⟩ := y v H' yl
      unfold forL at el
      split at el
      · rename_i env2 hset
        refine tg_snd hset hr2 r2 (he'.mono l2) fun σ2 he2 _ => ⟨w2, env2, S', hr2, he2, ?_⟩
        have el2 := el.up l2
        cases hx : exS C b env2 S' with
        | nx e s =>
          rw [hx] at el2
          exact fun w' σ' H' a b c => ⟨w', e, s, (lw.trans l2).trans a, b, c, el2.up a⟩
        | ct e s =>
          rw [hx] at el2
          exact fun w' σ' H' a b c => ⟨w', e, s, (lw.trans l2).trans a, b, c, el2.up a⟩
        | bk e s =>
          rw [hx] at el2
          exact el2
        | ret e s =>
          rw [hx] at el2
          exact el2
        | ex _ _ _ _ =>
          rw [hx] at el2
          exact el2
        | no =>
          rw [hx] at el2
          exact el2
      · exact el.elim
  | cl n =>
    refine ⟨fun i m σ H => ∃ w' env' S', LeW w1 w' ∧ HRel X.K S' w' H ∧ EnvRel X.K w' env' σ ∧ RdS X.K w' (forC (exS C b) tg n m i env' S') D, ⟨C.g.fu, w1, env, S1, LeW.refl _, hr1, he.mono l1, q1⟩, ?_⟩
    rintro i m σ H ⟨w', env', S', lw, hr', he', el⟩
    cases m with
    | zero => exact el.elim
    | succ m =>
      unfold forC at el
      split at el
      · rename_i xs hS
        obtain ⟨item, stop⟩ := hI w' S' H i xs lw hr' hS
        split at el
        · rename_i x hx
          obtain ⟨go, y⟩ := item x hx
          refine .inr ⟨go, fun σ' H' => ∃ w'' env'' S'', LeW w1 w'' ∧ HRel X.K S'' w'' H' ∧ EnvRel X.K w'' env'' σ' ∧ RdS X.K w'' (forC (exS C b) tg n m (i + 1) env'' S'') D, fun σ' H' h => ⟨m, by omega, h⟩, fun v H' yl => ?_⟩
          obtain ⟨w2, l2, hr2, r2⟩ := y v H' yl
          split at el
          · rename_i env2 hset
            refine tg_snd hset hr2 r2 (he'.mono l2) fun σ2 he2 _ => ⟨w2, env2, S', hr2, he2, ?_⟩
            have el2 := el.up l2
            cases hx : exS C b env2 S' with
            | nx e s =>
              rw [hx] at el2
              exact fun w' σ' H' a b c => ⟨w', e, s, (lw.trans l2).trans a, b, c, el2.up a⟩
            | ct e s =>
              rw [hx] at el2
              exact fun w' σ' H' a b c => ⟨w', e, s, (lw.trans l2).trans a, b, c, el2.up a⟩
            | bk e s =>
              rw [hx] at el2
              exact el2
            | ret e s =>
              rw [hx] at el2
              exact el2
            | ex _ _ _ _ =>
              rw [hx] at el2
              exact el2
            | no =>
              rw [hx] at el2
              exact el2
          · exact el.elim
        · rename_i hx
          exact .inl ⟨stop hx, el w' σ H (LeW.refl _) hr' he'⟩
      · exact el.elim
theorem asg_read {i : Nat} {e : E} {D : Ends} {σ : L2.St} {H : Hp} (q : tSm X.K C (.set i e) D σ H) : tAsg (tE X.K C e) (gName i) D σ H := by
  obtain ⟨w, env, S, hr, he, q⟩ := q
  simp only [exS] at q
  refine ⟨w, env, S, hr, he, (RdS.step (rel := RepW X.K) q).imp fun v H1 h1 => ?_⟩
  obtain ⟨w1, x1, S1, l1, hr1, r1, q1⟩ := h1
  exact q1 w1 _ H1 (LeW.refl _) hr1 ((he.mono l1).set r1)
theorem s_set (G : Gd C ct k X) {i : Nat} {e : E} {x : Str} {px : Pos} {v : Expr} (h : (nmB ct.N i x && locB ct x && chE ct e v && (!swB ct.sc v x px || lcB ct.sc x)) = true) : PS X (.Assign [.Name x px] v pos) (tSm X.K C (.set i e)) := by
  obtain ⟨l1, l2⟩ := loc_ok G (and2 (and1 (and1 h)))
  have hn := nm_ok G (and1 (and1 (and1 h)))
  have hv := and2 (and1 h)
  have sw := swB_ok (v := v) (x := x) (px := px) (l := pos.line) G.sc
  cases hb : swB ct.sc v x px with
  | false =>
    rw [hb] at sw
    exact PS.weak (ps_set G.nd' hn l1 ((snd_all C k e).e G hv) sw l2) fun D σ H q => asg_read q
  | true =>
    rw [hb] at sw
    have hl : lcB ct.sc x = true := by
      have := and2 h
      rw [hb] at this
      simpa using this
    have hl' : X.env.scope.names.lookup x = some .local := by
      rw [G.sc]
      exact lcB_ok hl
    cases v with
    | ListComp elt gs scope p =>
      cases e with
      | lc c own tg it ifs el =>
        rcases gs with _ | ⟨⟨t, i, cs, ay⟩, _ | ⟨g', gs⟩⟩
        · exact nope hv
        · have e : ay = 0 := of_decide_eq_true (and1 hv)
          subst e
          obtain ⟨h1, h2, h3, h4, h5, h6, h7⟩ := lc_parts G (snd_all C k it) (snd_all C k ifs) (snd_all C k el) (and2 hv)
          exact PS.weak (ps_setLc G.calm G.nd' hn hl' sw h1 h2 h3 h4 h5 h6) fun D σ H q => lc_read h7 (asg_read q)
        · exact nope hv
      | bf f l => cases f <;> exact nope hv
      | _ => exact nope hv
    | DictComp kx vx gs scope p =>
      cases e with
      | dc c own tg it ifs ke el =>
        rcases gs with _ | ⟨⟨t, i, cs, ay⟩, _ | ⟨g', gs⟩⟩
        · exact nope hv
        · have e : ay = 0 := of_decide_eq_true (and1 hv)
          subst e
          have h' := and2 hv
          obtain ⟨h1, h2, h3, h4, h5, h6, h7⟩ := lc_parts G (snd_all C k it) (snd_all C k ifs) (snd_all C k ke) (and1 h')
          exact PS.weak (ps_setDc G.calm G.nd' hn hl' sw h1 h2 h3 h4 h5 (fun s H D cl fp => (snd_all C k el).e (G.blk scope s H D cl fp) (and2 h')) h6) fun D σ H q => dc_read h7 (asg_read q)
        · exact nope hv
      | bf f l => cases f <;> exact nope hv
      | _ => exact nope hv
    | SetComp elt gs scope p =>
      cases e with
      | bf f l => cases f <;> exact nope hv
      | _ => exact nope hv
    | _ => exact nope hb
theorem s_setT (G : Gd C ct k X) {is : List Nat} {e : E} {ts : List Expr} {kt : Nat} {pt : Pos} {v : Expr} (h : (tgB.go ct is ts && chE ct e v && !isTupE v && notComp v) = true) : PS X (.Assign [.Tuple ts kt pt] v pos) (tSm X.K C (.setT is e)) := by
  obtain ⟨h1, h2, h3⟩ := pgs_go G (and1 (and1 (and1 h)))
  refine PS.weak (ps_asg ((snd_all C k e).e G (and2 (and1 (and1 h)))) (pg_seq G.calm h1 h2 h3) (by rw [sole_eq]; exact swaps_nc (and2 h)) (stores_none (by rw [bnot (and2 (and1 h)), Bool.and_false]) (fun _ _ z => nomatch z))) fun D σ H q => ?_
  obtain ⟨w, env, S, hr, he, q⟩ := q
  simp only [exS] at q
  refine ⟨w, env, S, hr, he, (RdS.step (rel := RepW X.K) q).imp fun v H1 h1 => ?_⟩
  obtain ⟨w1, x1, S1, l1, hr1, r1, q1⟩ := h1
  simp only at q1
  split at q1
  · rename_i env2 hset
    exact tg_snd (tg := .tup is) hset hr1 r1 (he.mono l1) fun σ2 he2 _ => q1 w1 σ2 H1 (LeW.refl _) hr1 he2
  · exact q1.elim
theorem s_par (G : Gd C ct k X) {i j : Nat} {l : E} {x y : Str} {px py pt pt2 : Pos} {a b : Expr} {kt k2 : Nat}
    (h : (nmB ct.N i x && nmB ct.N j y && decide (i ≠ j) && lcB ct.sc x && lcB ct.sc y && chL ct l [a, b] && decide (swP ct.sc [.Name x px, .Name y py] [a, b] = some (some [x, y]))) = true) :
    PS X (.Assign [.Tuple [.Name x px, .Name y py] kt pt] (.Tuple [a, b] k2 pt2) pos) (tSm X.K C (.par [i, j] l)) := by
  have hij : i ≠ j := of_decide_eq_true (and2 (and1 (and1 (and1 (and1 h)))))
  refine PS.weak (ps_par G.calm G.nd' (nm_ok G (and1 (and1 (and1 (and1 (and1 (and1 h))))))) (nm_ok G (and2 (and1 (and1 (and1 (and1 (and1 h))))))) hij (by rw [G.sc]; exact lcB_ok (and2 (and1 (and1 (and1 h))))) (by rw [G.sc]; exact lcB_ok (and2 (and1 (and1 h))))
    ((snd_all C k l).l G (and2 (and1 h))) (swP_ok G.sc (of_decide_eq_true (and2 h))) (by rw [sole_eq]; exact sw_nn rfl)) fun D σ H q => ?_
  obtain ⟨w, env, S, hr, he, q⟩ := q
  simp only [exS] at q
  refine ⟨w, env, S, hr, he, (RdS.step (rel := RepWs X.K) q).imp fun vs H1 h1 => ?_⟩
  obtain ⟨w1, ws, S1, l1, hr1, r1, q1⟩ := h1
  simp only at q1
  split at q1
  · rename_i env2 hset
    have hl := many_len hset
    rcases ws with _ | ⟨w0, _ | ⟨w00, _ | ⟨_, _⟩⟩⟩
    · cases hl
    · cases hl
    · cases r1 with
      | cons ra rt =>
        obtain ⟨u, rfl, ru⟩ := one_of rt
        cases hset
        exact ⟨_, u, rfl, q1 w1 _ H1 (LeW.refl _) hr1 (((he.mono l1).set ra).set ru)⟩
    · simp at hl
  · exact q1.elim
theorem s_parN (G : Gd C ct k X) {is : List Nat} {l : E} {ts vs : List Expr} {kt k2 : Nat} {pt pt2 : Pos} (h : parN ct is l ts vs = true) : PS X (.Assign [.Tuple ts kt pt] (.Tuple vs k2 pt2) pos) (tSm X.K C (.par is l)) := by
  unfold parN at h
  obtain ⟨h1, h2, h3⟩ := pgs_go G (and1 (and1 (and1 h)))
  refine PS.weak (ps_asg (pe_tup ((snd_all C k l).l G (and2 (and1 (and1 h))))) (pg_tup G.calm h1 h2 h3) (by rw [sole_eq]; exact sw_nn rfl) (swP_ok G.sc (of_decide_eq_true (and2 h)))) fun D σ H q => ?_
  obtain ⟨w, env, S, hr, he, q⟩ := q
  simp only [exS] at q
  refine ⟨w, env, S, hr, he, (RdS.step (rel := RepWs X.K) q).imp fun us H1 h1 => ?_⟩
  obtain ⟨w1, ws, S1, l1, hr1, r1, q1⟩ := h1
  simp only at q1
  split at q1
  · rename_i env2 hset
    have hl := many_len hset
    have hl2 := Paired.length r1
    have h15 : is.length ≤ 15 := of_decide_eq_true (and2 (and1 h))
    have hlim := lim_le
    have h16 : 15 ≤ lim := by decide
    refine ⟨by omega, fun p hp => ?_⟩
    obtain ⟨hr2, lw⟩ := hr1.newF (o := .tup us) hp
    refine ⟨p, us, rfl, .inl (.inl upd_same), by omega, ?_⟩
    exact many_snd hset (r1.mono lw) (he.mono (l1.trans lw)) fun σ2 he2 _ => q1 _ σ2 _ lw hr2 he2
  · exact q1.elim
theorem s_sub (G : Gd C ct k X) {o i e : E} {x y v : Expr} {p : Pos} (h : (chE ct o x && chE ct i y && chE ct e v && notSlice y) = true) : PS X (.Assign [.Subscript x y p] v pos) (tSm X.K C (.sub o i e)) := by
  have hu := G.hu
  have ho := (snd_all C k o).e G (and1 (and1 (and1 h)))
  have hi := (snd_all C k i).e G (and2 (and1 (and1 h)))
  have hv := (snd_all C k e).e G (and2 (and1 h))
  have ha : ∀ v, assign (.Subscript x y p) X.env v = (do
      let ov ← holding [v] (eval x X.env)
      let iv ← holding [v, ov] (eval y X.env)
      standAt p
      holding [v, ov, iv] (setItem ov iv v)
      release [v, ov, iv] []) := fun v => by
    have hs := and2 h
    cases y <;> first
      | rfl
      | exact nope hs
  refine PS.weak (ps_asg hv (pg_sub ho hi (set_any (by omega)) ha) (by rw [sole_eq]; exact sw_nn rfl) (stores_none rfl (fun _ _ z => nomatch z))) fun D σ H q => ?_
  obtain ⟨w, env, S, hr, he, q⟩ := q
  simp only [exS] at q
  refine ⟨w, env, S, hr, he, (RdS.step (rel := RepW X.K) q).imp fun v H1 h1 => ?_⟩
  obtain ⟨w1, x1, S1, l1, hr1, r1, q1⟩ := h1
  refine ⟨w1, env, S1, hr1, he.mono l1, (RdS.step (rel := RepW X.K) q1).imp fun v H2 h2 => ?_⟩
  obtain ⟨w2, x2, S2, l2, hr2, r2, q2⟩ := h2
  refine ⟨w2, env, S2, hr2, he.mono (l1.trans l2), (RdS.step (rel := RepW X.K) q2).imp fun v H3 h3 => ?_⟩
  obtain ⟨w3, x3, S3, l3, hr3, r3, q3⟩ := h3
  obtain ⟨S4, e4, q4⟩ := RdS.lift0 q3
  exact setSub_snd hr3 (r2.mono l3) r3 (r1.mono (l2.trans l3)) e4 fun H' hr' => q4 w3 σ H' (LeW.refl _) hr' (he.mono ((l1.trans l2).trans l3))
theorem s_fld (G : Gd C ct k X) {o e : E} {f g : Str} {x v : Expr} {p : Pos} (h : (chE ct o x && decide (f = g) && chE ct e v) = true) : PS X (.Assign [.Attribute x g p] v pos) (tSm X.K C (.fld o f e)) := by
  have e0 : f = g := of_decide_eq_true (and2 (and1 h))
  subst e0
  refine PS.weak (ps_fld ((snd_all C k o).e G (and1 (and1 h))) ((snd_all C k e).e G (and2 h)) (sw_nn rfl)) fun D σ H q => ?_
  obtain ⟨w, env, S, hr, he, q⟩ := q
  simp only [exS] at q
  refine ⟨w, env, S, hr, he, (RdS.step (rel := RepW X.K) q).imp fun v H1 h1 => ?_⟩
  obtain ⟨w1, x1, S1, l1, hr1, r1, q1⟩ := h1
  refine ⟨w1, env, S1, hr1, he.mono l1, (RdS.step (rel := RepW X.K) q1).imp fun v H2 h2 => ?_⟩
  obtain ⟨w2, x2, S2, l2, hr2, r2, q2⟩ := h2
  obtain ⟨S3, e3, q3⟩ := RdS.lift0 q2
  simp only at e3
  unfold setFld at e3
  split at e3
  · rename_i n
    obtain ⟨ad, hn, rfl⟩ := r2
    split at e3
    · rename_i c fs hS
      split at e3
      · rename_i hc
        unfold write at e3
        split at e3
        · rename_i hb
          cases e3
          rcases hr2.cell n _ ad hS hn with z | ⟨hF, dx, vs, ho, rr⟩
          · cases z
          · obtain ⟨g1, g2⟩ := G.fld c f hc.2
            have e1 := Paired.length rr
            refine ⟨ad, _, dx, vs, rfl, ho, g1, g2, by omega, ?_⟩
            exact q3 w2 σ _ (LeW.refl _) (hr2.write hn hF hb ⟨dx, _, upd_same, RepWk.putF (r1.mono l2) rr⟩) (he.mono (l1.trans l2))
        · cases e3
      · cases e3
    · cases e3
  · cases e3
end
theorem snd_stmt (C : Cn) (k : Nat) (z : S) : SndS C k z := by
  induction z with
  | nil => exact {
      ss := fun {ct X} G hp {sts} h => by
        cases sts with
        | nil =>
          refine PSs.weak pss_nil fun D σ H q => ?_
          obtain ⟨w, env, S, hr, he, q⟩ := q
          simp only [exS] at q
          exact q w σ H (LeW.refl _) hr he
        | cons a b => exact nope h }
  | cons a r ha hr => exact {
      ss := fun {ct X} G hp {sts} h => by
        cases sts with
        | nil => exact nope h
        | cons x xs =>
          have h' : (chS ct a x && chSs ct r xs) = true := h
          refine PSs.weak (pss_cons (ha.s G hp (and1 h')) (hr.ss G hp (and2 h'))) fun D σ H q => ?_
          obtain ⟨w, env, S, hr, he, q⟩ := q
          refine ⟨w, env, S, hr, he, ?_⟩
          simp only [exS] at q
          cases hx : exS C a env S with
          | nx e s =>
            rw [hx] at q
            exact fun w' σ' H' l1 l2 l3 => ⟨w', e, s, l2, l3, q.up l1⟩
          | ct e s =>
            rw [hx] at q
            exact q
          | bk e s =>
            rw [hx] at q
            exact q
          | ret e s =>
            rw [hx] at q
            exact q
          | ex _ _ _ _ =>
            rw [hx] at q
            exact q
          | no =>
            rw [hx] at q
            exact q }
  | expr e => exact {
      s := fun {ct X} G hp {st} h => by
        cases st with
        | Expr x pos =>
          have h' : (chE ct e x && notComp x) = true := h
          refine PS.weak (ps_expr ((snd_all C k e).e G (and1 h')) (swaps_nc (and2 h'))) fun D σ H q => ?_
          obtain ⟨w, env, S, hr, he, q⟩ := q
          simp only [exS] at q
          refine ⟨w, env, S, hr, he, (RdS.step (rel := RepW X.K) q).imp fun v H1 h1 => ?_⟩
          obtain ⟨w1, x1, S1, l1, hr1, r1, q1⟩ := h1
          exact q1 w1 σ H1 (LeW.refl _) hr1 (he.mono l1)
        | _ => exact nope h }
  | ret e => exact {
      s := fun {ct X} G hp {st} h => by
        cases st with
        | Return x pos =>
          cases x with
          | some x =>
            have h' : chE ct e x = true := by
              cases e with
              | lit p => cases p <;> exact h
              | _ => exact h
            refine PS.weak (ps_ret ((snd_all C k e).e G h')) fun D σ H q => ?_
            obtain ⟨w, env, S, hr, he, q⟩ := q
            simp only [exS] at q
            refine ⟨w, env, S, hr, he, (RdS.step (rel := RepW X.K) q).imp fun v H1 h1 => ?_⟩
            obtain ⟨w1, x1, S1, l1, hr1, r1, q1⟩ := h1
            exact q1 w1 v H1 (LeW.refl _) hr1 r1
          | none =>
            cases e with
            | lit p =>
              cases p with
              | non =>
                refine PS.weak ps_retN fun D σ H q => ?_
                obtain ⟨w, env, S, hr, he, q⟩ := q
                simp only [exS, evE] at q
                exact q w .non H (LeW.refl _) hr (show RepP X.K w.F .non _ from P_non)
              | _ => exact nope h
            | _ => exact nope h
        | _ => cases e with
          | lit p => cases p <;> exact nope h
          | _ => exact nope h }
  | pass => exact {
      s := fun {ct X} G hp {st} h => by
        cases st with
        | Pass pos =>
          refine PS.weak ps_pass fun D σ H q => ?_
          obtain ⟨w, env, S, hr, he, q⟩ := q
          simp only [exS] at q
          exact q w σ H (LeW.refl _) hr he
        | _ => exact nope h }
  | set i e => exact {
      s := fun {ct X} G hp {st} h => by
        cases st with
        | Assign ts v pos =>
          rcases ts with _ | ⟨t, _ | ⟨t', ts⟩⟩
          · exact nope h
          · cases t with
            | Name x px => exact s_set G h
            | _ => exact nope h
          · cases t <;> exact nope h
        | _ => exact nope h }
  | setT is e => exact {
      s := fun {ct X} G hp {st} h => by
        cases st with
        | Assign ts v pos =>
          rcases ts with _ | ⟨t, _ | ⟨t', ts⟩⟩
          · exact nope h
          · cases t with
            | Tuple es kt pt => exact s_setT G h
            | _ => exact nope h
          · cases t <;> exact nope h
        | _ => exact nope h }
  | par is l => exact {
      s := fun {ct X} G hp {st} h => by
        cases st with
        | Assign ts v pos =>
          rcases ts with _ | ⟨t, _ | ⟨t', ts⟩⟩
          · exact nope h
          · cases t with
            | Tuple es kt pt =>
              cases v with
              | Tuple vs k2 pt2 =>
                have h0 : (parB ct is l es vs || parN ct is l es vs) = true := h
                rcases Bool.or_eq_true_iff.mp h0 with h' | h'
                · unfold parB at h'
                  split at h'
                  · exact s_par G h'
                  · exact nope h'
                · exact s_parN G h'
              | _ => exact nope h
            | _ => exact nope h
          · cases t <;> exact nope h
        | _ => exact nope h }
  | sub o i e => exact {
      s := fun {ct X} G hp {st} h => by
        cases st with
        | Assign ts v pos =>
          rcases ts with _ | ⟨t, _ | ⟨t', ts⟩⟩
          · exact nope h
          · cases t with
            | Subscript x y p => exact s_sub G h
            | _ => exact nope h
          · cases t <;> exact nope h
        | _ => exact nope h }
  | fld o f e => exact {
      s := fun {ct X} G hp {st} h => by
        cases st with
        | Assign ts v pos =>
          rcases ts with _ | ⟨t, _ | ⟨t', ts⟩⟩
          · exact nope h
          · cases t with
            | Attribute x g p => exact s_fld G h
            | _ => exact nope h
          · cases t <;> exact nope h
        | _ => exact nope h }
  | aug i o e => exact { }
  | ite t a b ha hb => exact {
      s := fun {ct X} G hp {st} h => by
        cases st with
        | If c x y pos =>
          have h' : (chE ct t c && tsE t c && chSs ct a x && chSs ct b y) = true := h
          refine PS.weak (ps_if ((snd_all C k t).t G (and1 (and1 (and1 h'))) (and2 (and1 (and1 h')))) (ha.ss G hp (and2 (and1 h'))) (hb.ss G hp (and2 h'))) fun D σ H q => ?_
          obtain ⟨w, env, S, hr, he, q⟩ := q
          simp only [exS] at q
          refine ⟨w, env, S, hr, he, (RdS.step (rel := relB) q).imp fun v H1 h1 => ?_⟩
          obtain ⟨w1, x1, S1, l1, hr1, r1, q1⟩ := h1
          cases r1
          simp only at q1
          cases v with
          | true =>
            rw [if_pos rfl] at q1 ⊢
            exact ⟨w1, env, S1, hr1, he.mono l1, q1⟩
          | false =>
            rw [if_neg Bool.false_ne_true] at q1 ⊢
            exact ⟨w1, env, S1, hr1, he.mono l1, q1⟩
        | _ => exact nope h }
  | whl t b hb => exact {
      s := fun {ct X} G hp {st} h => by
        cases st with
        | While c x y pos =>
          cases y with
          | nil =>
            have h' : (chE ct t c && tsE t c && chSs ct b x) = true := h
            exact s_while hp ((snd_all C k t).t G (and1 (and1 h')) (and2 (and1 h'))) (hb.ss G hp (and2 h'))
          | cons _ _ => exact nope h
        | _ => exact nope h }
  | for_ tg it b hb => exact {
      s := fun {ct X} G hp {st} h => by
        cases st with
        | For t i x y pos =>
          cases y with
          | nil =>
            have h' : (tgB ct tg t && chI ct it i t && notSetE i && chSs ct b x) = true := h
            exact s_for G hp ((snd_all C k it).i G (and2 (and1 (and1 h')))) (pg_tg G (and1 (and1 (and1 h')))) (and2 (and1 h')) (hb.ss G hp (and2 h'))
          | cons _ _ => exact nope h
        | _ => exact nope h }
  | brk => exact {
      s := fun {ct X} G hp {st} h => by
        cases st with
        | Break pos =>
          refine PS.weak ps_break fun D σ H q => ?_
          obtain ⟨w, env, S, hr, he, q⟩ := q
          simp only [exS] at q
          exact q w σ H (LeW.refl _) hr he
        | _ => exact nope h }
  | cnt => exact {
      s := fun {ct X} G hp {st} h => by
        cases st with
        | Continue pos =>
          refine PS.weak ps_continue fun D σ H q => ?_
          obtain ⟨w, env, S, hr, he, q⟩ := q
          simp only [exS] at q
          exact q w σ H (LeW.refl _) hr he
        | _ => exact nope h }
  | raise c l => exact {
      s := fun {ct X} G hp {st} h => PS.weak ps_never fun D σ H q => by
        obtain ⟨w, env, S, hr, he, q⟩ := q
        simp only [exS] at q
        exact q }
  | del o i => exact { }
end LS

set_option Elab.async false
set_option linter.all false
set_option maxRecDepth 100000
set_option maxHeartbeats 1000000
/-! LS16: defs, classes, a whole module. -/
namespace LS
open PySem PySem.Spec PyProof.Rows L2

theorem passes_cx {P : Program} {w : World} {K : PySem.W.Frag} {mg : Str → Option Value} {base : Heap} {N : List Str} {qual : Str} {scope : Scope} {f : Addr} {cd : Value} {A : Around} {outer : List PySem.Env} {s : Shared} {H : Hp} {E : XK} :
    PassesOwn (model P w) (cxOf CX0 P w K mg base N qual scope f cd A outer s H E).A (cxOf CX0 P w K mg base N qual scope f cd A outer s H E).env (cxOf CX0 P w K mg base N qual scope f cd A outer s H E).xe := PassesOwn.leaving
/-- a def by its body, the guards known -/
theorem fnG_of {P : Program} {w : World} {K : PySem.W.Frag} {mg : Str → Option Value} {base : Heap} {k : Nat} {f : Addr} {x qual : Str} {params : Arguments} {body : List Stmt} {scope : Scope} {dvs : List V} {kws : List (Str × V)} {fd : FuncData} {N ps : List Str} {sp : List V → Hp → VK → Prop}
    (F : FunD K x qual params body scope dvs kws f fd) (S : FnScope N ps scope)
    (hbody : ∀ (cdv : Value) (A : Around) (outer : List PySem.Env) (s : Shared) (H : Hp) (vs : List V) (Q : VK), Room k (A.deeper (envOfC qual scope s.heap.objs.size f cdv)) → A.guards = some [] → sp vs H Q →
      ∃ zs ds t, Vals zs ds ∧ Binds K fd ps ds ∧ (vs ++ zs).length = ps.length ∧ PSs (cxOf CX0 P w K mg base N qual scope f cdv A outer s H E0) body t ∧ t { nx := fun _ H' => Q .non H', rt := Q } (start N (vs ++ zs)) H) :
    FnG P w K mg base (k + 1) f sp := by
  intro A outer s H us vs Q hr hg e0 r hsp
  obtain ⟨oc, od, dV, kV, doc, pm, an, cdv, ct, osl, rfl, lk, hcd, _, _⟩ := F.ex
  obtain ⟨zs, ds, t, rz, hb, hl, ht, hq⟩ := hbody cdv A outer s H vs Q (hr.deeper _) hg hsp
  have r2 : Vals (vs ++ zs) (us ++ ds) := r.append rz
  have KX : K.In s.heap := e0.mod.kin.keeps fun b o e => (e0.bs b o e).1
  have lim : s.heap.NoLimit := e0.mod.nolimit.keeps fun b o e => (e0.bs b o e).1
  have hkind : ∀ y ∈ ps.zip (us ++ ds), scope.names.lookup y.1 = some .local ∨ (scope.names.lookup y.1 = some .cell ∧ ((cellsFrom (s.heap.objs.size + 1) scope.names []).lookup y.1).isSome = true) := fun ⟨n, v⟩ hy => by
    rcases S.par n (List.of_mem_zip hy).1 with q | q
    · exact .inl q
    · exact .inr ⟨q, PySem.W.cellsFrom_some _ _ _ (.inl q)⟩
  refine codeAny_call_function hr.depth (KX _ _ lk) rfl S.co S.gen rfl (PySem.W.codeRec_of KX hcd) (hb s us KX (by rw [← r2.length]; exact hl) _ _ _ _ ?_)
  refine wpAny_newFunctionEnv_cells S.kind hkind fun env he s1 z => ?_
  subst he
  refine ⟨lim.keeps z.toInCall.keep, codeAny_func ?_⟩
  have I : Inv (cxOf CX0 P w K mg base N qual scope f cdv A outer s H E0) [] (start N (vs ++ zs)) H s1 := inv_start S hr.hd e0 hl r2 z
  refine wpAny_mono (ht.run [] s1 _ H _ I hq) (fun fl s' hs => ?_) fun e s' hs => hs
  cases fl with
  | ret u =>
    obtain ⟨v, σ', H', J, rv, q⟩ := hs
    exact ⟨v, H', J.os, J.bare, J.base, J.hok, rv, q⟩
  | next =>
    obtain ⟨σ', H', J, q⟩ := hs
    exact ⟨V.non, H', J.os, J.bare, J.base, J.hok, rfl, q⟩
  | brk =>
    obtain ⟨_, _, _, q⟩ := hs
    exact False.elim q
  | cont =>
    obtain ⟨_, _, _, q⟩ := hs
    exact False.elim q

/-! ### what a def hands out -/
theorem plain_lows {c : Cell} {p : P} (h : c.view = some p) (n : Nat) : c.lows n = true := by
  have one : ∀ {ws : List W} {ps : List P}, allP ws = some ps → ws.all (refBelow n) = true := fun {ws} => by
    induction ws with
    | nil => exact fun _ => rfl
    | cons a ws ih =>
      intro ps h
      cases a with
      | v q =>
        cases e : allP ws with
        | none => simp [allP, e] at h
        | some qs =>
          have := ih e
          simp only [List.all_cons, this]
          rfl
      | c m => simp [allP] at h
  have two : ∀ {ws : List (Key × W)} {ps : List (Key × P)}, allKP ws = some ps → (ws.all fun q => refBelow n q.2) = true := fun {ws} => by
    induction ws with
    | nil => exact fun _ => rfl
    | cons a ws ih =>
      intro ps h
      obtain ⟨key, a⟩ := a
      cases a with
      | v q =>
        cases e : allKP ws with
        | none => simp [allKP, e] at h
        | some qs =>
          have := ih e
          simp only [List.all_cons, this]
          rfl
      | c m => simp [allKP] at h
  have three : ∀ {ws : List (Str × W)} {ps : List (Str × P)}, allFP ws = some ps → (ws.all fun q => refBelow n q.2) = true := fun {ws} => by
    induction ws with
    | nil => exact fun _ => rfl
    | cons a ws ih =>
      intro ps h
      obtain ⟨key, a⟩ := a
      cases a with
      | v q =>
        cases e : allFP ws with
        | none => simp [allFP, e] at h
        | some qs =>
          have := ih e
          simp only [List.all_cons, this]
          rfl
      | c m => simp [allFP] at h
  cases c with
  | dead => rfl
  | lst ws =>
    cases e : allP ws with
    | none => simp [Cell.view, e] at h
    | some ps => exact one e
  | dct ws =>
    cases e : allKP ws with
    | none => simp [Cell.view, e] at h
    | some ps => exact two e
  | ins cc ws =>
    cases e : allFP ws with
    | none => simp [Cell.view, e] at h
    | some ps => exact three e
theorem HRel.own {K : PySem.W.Frag} {S : Cells} {w : Wd} {H : Hp} (hr : HRel K S w H) {k n : Nat} {c : Cell} {a : Addr} {p : P} (hk : k ≤ n) (hc : S[n]? = some c) (hp : c.view = some p) (ha : w.ρ[n]? = some a) :
    HRel K (S.take k ++ [c]) ⟨w.ρ.take k ++ [a], w.F⟩ H := by
  have ht := hr.take k
  have hlen : (w.ρ.take k).length = (S.take k).length := ht.len
  have hnS := noneLt hc
  have hkS : (S.take k).length = k := by
    rw [List.length_take]
    omega
  have hkρ : (w.ρ.take k).length = k := by rw [hlen, hkS]
  have low : ∀ {m : Nat} {d : Cell}, (S.take k ++ [c])[m]? = some d → (m < k ∧ (S.take k)[m]? = some d) ∨ (m = k ∧ d = c) := fun {m d} e => by
    by_cases h : m < k
    · rw [List.getElem?_append_left (by omega)] at e
      exact .inl ⟨h, e⟩
    · rw [List.getElem?_append_right (by omega)] at e
      by_cases h2 : m = k
      · subst h2
        rw [hkS] at e
        simp at e
        exact .inr ⟨rfl, e.symm⟩
      · have : m - (S.take k).length ≥ 1 := by omega
        rw [List.getElem?_eq_none (by simpa using this)] at e
        cases e
  have lowρ : ∀ {m : Nat} {b : Addr}, (w.ρ.take k ++ [a])[m]? = some b → (m < k ∧ (w.ρ.take k)[m]? = some b) ∨ (m = k ∧ b = a) := fun {m b} e => by
    by_cases h : m < k
    · rw [List.getElem?_append_left (by omega)] at e
      exact .inl ⟨h, e⟩
    · rw [List.getElem?_append_right (by omega)] at e
      by_cases h2 : m = k
      · subst h2
        rw [hkρ] at e
        simp at e
        exact .inr ⟨rfl, e.symm⟩
      · have : m - (w.ρ.take k).length ≥ 1 := by omega
        rw [List.getElem?_eq_none (by simpa using this)] at e
        cases e
  have lw : LeW ⟨w.ρ.take k, w.F⟩ ⟨w.ρ.take k ++ [a], w.F⟩ := ⟨List.prefix_append _ _, LeL.refl _⟩
  refine ⟨hr.le, by simp only [List.length_append, hlen]; rfl, ?_, fun m d e => ?_, fun m d b e f => ?_, fun m b e => ?_⟩
  · show (w.ρ.take k ++ [a]).Nodup
    rw [List.nodup_append]
    refine ⟨ht.inj, by simp, fun x hx y hy => ?_⟩
    simp at hy
    subst hy
    intro z
    subst z
    obtain ⟨m, hm⟩ := List.mem_iff_getElem?.mp hx
    have h1 := noneLt hm
    rw [List.getElem?_take_of_lt (by omega)] at hm
    have := nodup_at hr.inj hm ha
    omega
  · rcases low e with ⟨_, h⟩ | ⟨rfl, rfl⟩
    · exact ht.wf m d h
    · exact plain_lows hp _
  · rcases low e with ⟨hm, h⟩ | ⟨rfl, rfl⟩
    · rcases lowρ f with ⟨_, g⟩ | ⟨z, _⟩
      · rcases ht.cell m d b h g with h' | ⟨h1, h2⟩
        · exact .inl h'
        · exact .inr ⟨h1, h2.keep lw rfl⟩
      · omega
    · rcases lowρ f with ⟨z, _⟩ | ⟨_, rfl⟩
      · omega
      · rcases hr.cell n _ _ hc ha with rfl | ⟨h1, h2⟩
        · simp [Cell.view] at hp
        · exact .inr ⟨h1, (h2.cut (plain_lows hp m)).keep lw rfl⟩
  · rcases lowρ e with ⟨_, g⟩ | ⟨_, rfl⟩
    · exact ht.trk m b g
    · exact hr.trk n _ ha
theorem fnEnd_snd {K : PySem.W.Frag} {own : Bool} {S1 S2 : Cells} {w w' : Wd} {H : Hp} {x r : W} {v : V} {k : Nat} (hk : w.ρ.length = k) (l : LeW w w') (hr : HRel K S1 w' H) (rx : RepW K w' x v) (e : fnEnd own k x S1 = .ok (r, S2)) :
    ∃ w'', LeW w w'' ∧ HRel K S2 w'' H ∧ RepW K w'' r v := by
  unfold fnEnd at e
  split at e
  · cases e
    exact ⟨_, l.take (Nat.le_of_eq hk), hr.take k, rx⟩
  · rename_i n
    split at e
    · rename_i hn
      cases e
      exact ⟨_, l.take (Nat.le_of_eq hk), hr.take k, RepW.cut rx (decide_eq_true hn)⟩
    · rename_i hn
      obtain ⟨a, ha, rfl⟩ := rx
      split at e
      · rename_i c hc
        split at e
        · rename_i p hp
          cases own with
          | true =>
            rw [if_pos rfl] at e
            cases e
            have hl : (w'.ρ.take k).length = k := by
              have h1 := noneLt ha
              rw [List.length_take]
              omega
            refine ⟨_, ?_, hr.own (Nat.le_of_not_lt hn) hc hp ha, a, ?_, rfl⟩
            · exact (l.take (Nat.le_of_eq hk)).trans ⟨List.prefix_append _ _, LeL.refl _⟩
            · show (w'.ρ.take k ++ [a])[k]? = some a
              rw [List.getElem?_append_right (by omega), hl]
              simp
          | false =>
            rw [if_neg Bool.false_ne_true] at e
            cases e
            obtain ⟨w2, h1, h2, h3, h4⟩ := hr.frozen hc hp ha
            have t := h1.take k
            rw [List.take_set_of_le (Nat.le_of_not_lt hn)] at t
            exact ⟨_, (l.trans h2).take (Nat.le_of_eq hk), t, h4⟩
        · cases e
      · cases e

/-! ### a module -/
/-- a def of the table as it stands behind the top -/
def FnAt (K : PySem.W.Frag) (fa : Addr) (n np : Nat) (dfl : List P) (body : S) : Prop :=
  ∃ (x qual : Str) (params : Arguments) (bd : List Stmt) (scope : Scope) (dall : List V) (kws : List (Str × V)) (fd : FuncData) (N ps : List Str) (dvs : List V), FunD K x qual params bd scope dall kws fa fd ∧ FnScope N ps scope ∧ N.length = n ∧ ps.length = np ∧ (∀ F, RepPs K F dfl dvs) ∧
    (∀ j, j ≤ dvs.length → ∃ ds, Vals (dvs.drop j) ds ∧ Binds K fd ps ds) ∧ chSs ⟨N, scope, fun _ => true⟩ body bd = true
def At (K : PySem.W.Frag) (T : Str → Option Fn) (f : Str) (fa : Addr) : Prop := match T f with
  | some (.fn n np dfl body _) => FnAt K fa n np dfl body
  | some (.cls init) => fa = He.ga K f ∧ ∃ fi, Mk K fa fi ∧ ∃ n np dfl body own, T init = some (.fn n np dfl body own) ∧ FnAt K fi n np dfl body
  | none => True
structure Md (K : PySem.W.Frag) (mg : Str → Option Value) (T : Str → Option Fn) (g : Gm) : Prop where
  glo : ∀ x p, g.glo x = some p → ∃ v u, mg x = some u ∧ RelV v u ∧ ∀ F, RepP K F p v
  blt : ∀ x ∈ bltNames, mg x = none
  fld : ∀ c f, g.fld c f = true → Cls K (He.ga K c) ∧ NoAttr K (He.ga K c) f
  fn : ∀ f, g.fn f = true → ∃ fa, mg f = some (.ref fa) ∧ PySem.W.keepIn K (.ref fa) = true ∧ At K T f fa
  met : ∀ c m, g.met c m = true → ∃ fa, Cls K (He.ga K c) ∧ Meth K (He.ga K c) m fa ∧ At K T (c ++ "." ++ m) fa
section
variable {P : Program} {w : World} {K : PySem.W.Frag} {mg : Str → Option Value} {base : Heap} {T : Str → Option Fn} {g : Gm}
theorem start_rel {K : PySem.W.Frag} {w : Wd} {ws : List W} {vs : List V} {n : Nat} {N : List Str} (hN : N.length = n) (r : RepWs K w ws vs) : EnvRel K w (startE n ws) (start N vs) := by
  have hl := Paired.length r
  refine ⟨by unfold startE L2.start; simp only [List.length_append, List.length_map, List.length_replicate]; omega, fun i x e => ?_⟩
  unfold startE at e
  unfold L2.start
  by_cases h : i < ws.length
  · rw [List.getElem?_append_left (by simpa using h), List.getElem?_map] at e
    cases hx : ws[i]? with
    | none => rw [hx] at e; cases e
    | some y =>
      rw [hx] at e
      cases e
      obtain ⟨v, hv, rv⟩ := get_rep r hx
      refine ⟨v, ?_, rv⟩
      rw [List.getElem?_append_left (by simpa [← hl] using h), List.getElem?_map, hv]
      rfl
  · rw [List.getElem?_append_right (by simpa using h), List.getElem?_replicate] at e
    split at e <;> cases e
theorem RdS.no_loop {K : PySem.W.Frag} {w : Wd} {r : RS} {D D' : Ends} (h : RdS K w r D) (h1 : D.nx = D'.nx) (h2 : D.rt = D'.rt) (h3 : D.bk = D'.bk) (h4 : D.ct = D'.ct) : RdS K w r D' := by
  cases r with
  | nx env S => exact fun w' σ' H' a b c => h1 ▸ h w' σ' H' a b c
  | ret x S => exact fun w' σ' H' a b c => h2 ▸ h w' σ' H' a b c
  | bk env S => exact fun w' σ' H' a b c => h3 ▸ h w' σ' H' a b c
  | ct env S => exact fun w' σ' H' a b c => h4 ▸ h w' σ' H' a b c
  | ex _ _ _ _ => exact h
  | no => exact h
/-- one def, the others known one level below -/
theorem def_ok (M : Md K mg T g) {d : Nat} (ih : ∀ f fa, At K T f fa → CallG P w K mg base d fa (rFn K ⟨callF T g d, g⟩ f)) {f : Str} {fa : Addr} {n np : Nat} {dfl : List LS.P} {body : S} {own : Bool} (hT : T f = some (.fn n np dfl body own)) (h : FnAt K fa n np dfl body) :
    FnG P w K mg base (d + 1) fa (rFn K ⟨callF T g (d + 1), g⟩ f) := by
  obtain ⟨x, qual, params, bd, scope, dall, kws, fd, N, ps, dvs, F, S, hN, hps, hdf, hbind, hch⟩ := h
  refine fnG_of F S fun cdv A outer s H vs Q hr hg hsp => ?_
  obtain ⟨w0, S0, ws, hr0, rs, q⟩ := hsp
  have q' : RdG K (RepW K) w0 (callF T g (d + 1) f ws S0) Q := q
  unfold callF at q'
  rw [hT] at q'
  simp only at q'
  cases hf : fillA np dfl ws with
  | none =>
    rw [hf] at q'
    exact q'.elim
  | some args =>
    rw [hf] at q'
    simp only at q'
    unfold fillA at hf
    split at hf
    · rename_i hle
      cases hf
      have hl := Paired.length rs
      have hdl : dfl.length = dvs.length := (hdf w0.F).len
      obtain ⟨ds, rz, hb⟩ := hbind (ws.length + dfl.length - np) (by omega)
      have rfull : RepWs K w0 (ws ++ (dfl.drop (ws.length + dfl.length - np)).map .v) (vs ++ dvs.drop (ws.length + dfl.length - np)) := app_rep rs (rep_map (RepPs.drop _ (hdf w0.F)))
      refine ⟨_, ds, tSm K ⟨callF T g d, g⟩ body, rz, hb, ?_, ?_, w0, startE n (ws ++ (dfl.drop (ws.length + dfl.length - np)).map .v), S0, hr0, start_rel hN rfull, ?_⟩
      · rw [List.length_append, List.length_drop, hps]
        omega
      · refine (snd_stmt ⟨callF T g d, g⟩ d body).ss (X := cxOf CX0 P w K mg base N qual scope fa cdv A outer s H E0) (ct := ⟨N, scope, fun _ => true⟩) ?_ passes_cx hch
        exact ⟨rfl, rfl, S.nd, rfl, rfl, hr, hg, M.glo, M.blt, M.fld, fun f hf => by
          obtain ⟨fa, h1, h2, h3⟩ := M.fn f hf
          exact ⟨fa, h1, h2, ih f fa h3⟩, fun c m hm => by
          obtain ⟨fa, h1, h2, h3⟩ := M.met c m hm
          exact ⟨fa, h1, h2, ih _ fa h3⟩⟩
      · cases hx : exS ⟨callF T g d, g⟩ body (startE n (ws ++ (dfl.drop (ws.length + dfl.length - np)).map .v)) S0 with
        | nx env S1 =>
          rw [hx] at q'
          intro w' σ' H' lw hr' he'
          obtain ⟨⟨r, S2⟩, e2⟩ := q'.pure_ok
          have q2 := q'
          rw [e2] at q2
          obtain ⟨w'', l1, l2, l3⟩ := fnEnd_snd (x := .v .non) (v := .non) hr0.len lw hr' (show RepP K w'.F .non .non from P_non) e2
          exact q2 w'' _ _ l1 l2 l3
        | ret x S1 =>
          rw [hx] at q'
          intro w' v H' lw hr' rx
          obtain ⟨⟨r, S2⟩, e2⟩ := q'.pure_ok
          have q2 := q'
          rw [e2] at q2
          obtain ⟨w'', l1, l2, l3⟩ := fnEnd_snd hr0.len lw hr' rx e2
          exact q2 w'' _ _ l1 l2 l3
        | bk e S1 =>
          rw [hx] at q'
          exact q'.elim
        | ct e S1 =>
          rw [hx] at q'
          exact q'.elim
        | ex _ _ _ _ =>
          rw [hx] at q'
          exact q'.elim
        | no =>
          rw [hx] at q'
          exact q'.elim
    · cases hf
/-- an untracked thing comes -/
theorem HRel.grow {K : PySem.W.Frag} {S : Cells} {w : Wd} {H : Hp} {p : Addr} {o : HO} (hr : HRel K S w H) (hp : H p = none) : HRel K S w (upd H p o) := by
  refine ⟨hr.le.right (hr.le.noneOf hp), hr.len, hr.inj, hr.wf, fun n c a e f => ?_, fun n a e => ?_⟩
  · obtain ⟨o', ho⟩ := hr.trk n a f
    rcases hr.cell n c a e f with h | ⟨h1, h2⟩
    · exact .inl h
    · exact .inr ⟨h1, h2.keep (LeW.refl _) (upd_ne (ne_of_none ho hp))⟩
  · obtain ⟨o', ho⟩ := hr.trk n a e
    exact ⟨o', by rw [upd_ne (ne_of_none ho hp)]; exact ho⟩
theorem under_guards {A : Around} {Ca : Addr} {us : List Value} {kw : List (Str × Value)} (h : A.guards = some []) : (A.under (.builtin "type.__call__" ⟨.ref Ca :: us, kw⟩)).guards = some [] := by
  simp [Around.under, Code.guards, Code.isGuard, guardIds, pushGuards, h]
theorem cls_call {f init : Str} {Ca fi : Addr} {d : Nat} (hT : T f = some (.cls init)) (hC : Ca = He.ga K f) (M : Mk K Ca fi) (F : FnG P w K mg base d fi (rFn K ⟨callF T g d, g⟩ init)) : CallG P w K mg base (d + 1) Ca (rFn K ⟨callF T g (d + 1), g⟩ f) := by
  intro X h1 h2 h3 h4 h5 hr hg
  subst h1 h2 h3 h4 h5
  intro pins s σ H vs us Q I r h
  obtain ⟨w0, S0, ws, hr0, rs, q⟩ := h
  have I2 := Inv.made (C := Ca) I
  have hx0 : H (s.heap.objs.size + 1) = none := I.hok.fresh (Nat.le_succ _)
  have hd0 : H s.heap.objs.size = none := I.hok.fresh (Nat.le_refl _)
  have ne : s.heap.objs.size + 1 ≠ s.heap.objs.size := Nat.ne_of_gt (Nat.lt_succ_self _)
  have hg1 : upd H s.heap.objs.size (.own (s.heap.objs.size + 1)) (s.heap.objs.size + 1) = none := by
    rw [upd_ne ne]
    exact hx0
  have lw : LeW w0 ⟨w0.ρ ++ [s.heap.objs.size + 1], w0.F⟩ := ⟨List.prefix_append _ _, LeL.refl _⟩
  obtain ⟨hr1, _⟩ := (hr0.grow (o := .own (s.heap.objs.size + 1)) hd0).newC (o := .ins Ca s.heap.objs.size []) (c := .ins f []) hg1 rfl ⟨s.heap.objs.size, [], by rw [upd_same, hC], .nil⟩
  have hpD : (⟨w0.ρ ++ [s.heap.objs.size + 1], w0.F⟩ : Wd).ρ[S0.length]? = some (s.heap.objs.size + 1) := by
    show (w0.ρ ++ [s.heap.objs.size + 1])[S0.length]? = _
    rw [← hr0.len]
    simp
  have q' : RdG X.K (RepW X.K) w0 (callF T g (d + 1) f ws S0) Q := q
  unfold callF at q'
  rw [hT] at q'
  simp only at q'
  have hin : rFn X.K ⟨callF T g d, g⟩ init (.ref (s.heap.objs.size + 1) :: vs) (upd (upd H s.heap.objs.size (.own (s.heap.objs.size + 1))) (s.heap.objs.size + 1) (.ins Ca s.heap.objs.size [])) (fun v H2 => v = .non ∧ Q (.ref (s.heap.objs.size + 1)) H2) := by
    refine ⟨_, S0 ++ [.ins f []], .c S0.length :: ws, hr1, .cons ⟨_, hpD, rfl⟩ (rs.mono lw), ?_⟩
    show RdG X.K (RepW X.K) _ (callF T g d init (.c S0.length :: ws) (S0 ++ [.ins f []])) _
    cases hx : callF T g d init (.c S0.length :: ws) (S0 ++ [.ins f []]) with
    | ex _ _ _ =>
      rw [hx] at q'
      exact q'.elim
    | no =>
      rw [hx] at q'
      exact q'.elim
    | ok q0 =>
      rw [hx] at q'
      obtain ⟨x0, S1⟩ := q0
      split at q'
      · rename_i z
        cases z
        intro w' v H' l2 hr' rv
        have rv' : RepP X.K w'.F .non v := rv
        unfold RepP at rv'
        obtain ⟨⟨xx, S3⟩, e3⟩ := q'.pure_ok
        rw [e3] at q'
        obtain ⟨w3, l3, hr3, r3⟩ := fin_snd (w0 := w0) hr' (at_pre l2 hpD) (lw.trans l2) (Nat.le_of_eq hr0.len) e3
        exact ⟨rv', q' w3 _ _ l3 hr3 r3⟩
      · exact q'.elim
      · exact q'.elim
      · exact q'.elim
  refine wpAny_call (make_map (f := fi) I.kIn M.makes M.init (beq_iff_eq.mp M.fn) (codeAny_mono (F _ X.stack _ _ (Value.ref (s.heap.objs.size + 1) :: us) (.ref (s.heap.objs.size + 1) :: vs) _ (hr.make Ca us []) (under_guards hg)
    (I2.env0.make Ca us []) (.cons rfl r) hin) fun r s' hq' => ?_))
  cases r with
  | error e => exact False.elim hq'
  | ok fl =>
    cases fl with
    | ret u =>
      obtain ⟨v, H', I3, rv, ev, q3⟩ := I2.after hq'
      subst ev
      exact ⟨rv, ⟨V.ref (s.heap.objs.size + 1), H', I3, rfl, q3⟩⟩
    | next => exact False.elim hq'
    | brk => exact False.elim hq'
    | cont => exact False.elim hq'
theorem all_ok (M : Md K mg T g) : ∀ (d : Nat), (∀ f fa, At K T f fa → CallG P w K mg base d fa (rFn K ⟨callF T g d, g⟩ f)) ∧ (∀ f fa n np dfl body own, T f = some (.fn n np dfl body own) → FnAt K fa n np dfl body → FnG P w K mg base d fa (rFn K ⟨callF T g d, g⟩ f))
  | 0 => by
    have no : ∀ {f vs H Q}, ¬ rFn K ⟨callF T g 0, g⟩ f vs H Q := fun {f vs H Q} ⟨w0, S0, ws, _, _, q⟩ => by
      have q' : RdG K (RepW K) w0 (callF T g 0 f ws S0) Q := q
      unfold callF at q'
      exact q'
    exact ⟨fun f fa _ X _ _ _ _ _ _ _ => fun pins s σ H vs us Q I r h => (no h).elim, fun f fa n np dfl body own _ _ => fun A outer s H us vs Q _ _ _ _ h => (no h).elim⟩
  | d + 1 => by
    obtain ⟨ih1, ih2⟩ := all_ok M d
    have fns : ∀ f fa n np dfl body own, T f = some (.fn n np dfl body own) → FnAt K fa n np dfl body → FnG P w K mg base (d + 1) fa (rFn K ⟨callF T g (d + 1), g⟩ f) := fun f fa n np dfl body own hT h => def_ok M ih1 hT h
    refine ⟨fun f fa h => ?_, fns⟩
    unfold At at h
    split at h
    · rename_i n np dfl body own hT
      exact (fns f fa n np dfl body own hT h).callG
    · rename_i init hT
      obtain ⟨hC, fi, M1, n, np, dfl, body, own, hi, hF⟩ := h
      exact cls_call hT hC M1 (ih2 init fi n np dfl body own hi hF)
    · rename_i hT
      intro X _ _ _ _ _ _ _ pins s σ H vs us Q I r h
      obtain ⟨w0, S0, ws, hr0, rs, q⟩ := h
      have q' : RdG K (RepW K) w0 (callF T g (d + 1) f ws S0) Q := q
      unfold callF at q'
      rw [hT] at q'
      exact q'.elim
end
end LS

set_option Elab.async false
set_option linter.all false
set_option maxRecDepth 100000
set_option maxHeartbeats 1000000
/-! LS17: the law's own call. -/
namespace LS
open PySem PySem.Spec PyProof.Rows L2

/-- the script alone, where the module does not hold it itself -/
structure Lone (K : PySem.W.Frag) (h : Heap) (a : Addr) (ob : Obj) (xs : List V) (H : Hp) : Prop where
  only : ∀ b, H b = none ∨ (b = a ∧ H b = some (.frz ob (.lst xs)) ∧ K.lookup a = none)
  sq : SqL K H a xs
theorem lone_of {K : PySem.W.Frag} {h : Heap} (KX : K.In h) {a : Addr} {vs : List Value} {xs : List V} (ha : h.get? a = some { cls := .type "list", data := .seq vs.toArray }) (r : Vals xs vs) (hl : xs.length ≤ sizeLine) :
    ∃ H, Lone K h a { cls := .type "list", data := .seq vs.toArray } xs H := by
  by_cases hk : K.lookup a = none
  · refine ⟨fun b => if b = a then some (.frz { cls := .type "list", data := .seq vs.toArray } (.lst xs)) else none, fun b => ?_, .inl (.inr ⟨_, if_pos rfl⟩)⟩
    by_cases hb : b = a
    · exact .inr ⟨hb, if_pos hb, hk⟩
    · exact .inl (if_neg hb)
  · refine ⟨fun _ => none, fun b => .inl rfl, ?_⟩
    cases e : K.lookup a with
    | none => exact absurd e hk
    | some o =>
      have e2 := KX a o e
      rw [ha] at e2
      cases e2
      exact .inr ⟨_, vs.toArray, _, e, rfl, rfl, rfl, by rw [List.size_toArray, ← r.length]; exact hl, by simpa using r⟩
theorem law_callG {P : Program} {w : World} {K : PySem.W.Frag} {mg mb : Str → Option Value} {k : Nat} {fa a : Addr} {sp : List V → Hp → VK → Prop} {s₁ : Shared} {vs : List Value} {ns : List Int}
    (KX : K.In s₁.heap) (hns : s₁.heap.Ns mainGlobals mg) (hb : s₁.heap.Ns builtinsNs mb) (hbb : ∀ x : Str, x ≠ "__name__" → mb x = bootBuiltins x) (hlim : s₁.heap.NoLimit) (hg : s₁.gens = #[])
    (ha : s₁.heap.get? a = some { cls := .type "list", data := .seq vs.toArray }) (hi : IntsAre vs ns) (hl : ns.length ≤ sizeLine) (hr : Room k callerA)
    (F : ∀ base : Heap, FnG P w K mg base k fa sp) (hsp : ∀ H : Hp, SqL K H a (ns.map V.int) → sp [.ref a] H (fun v _ => v = .bl true)) :
    codeAny (model P w) callerA (.call (.ref fa) ⟨[.ref a], []⟩) (fun r s' => r = .ok (.ret (.bool true)) ∧ OldK s₁.heap s'.heap ∧ s'.os = s₁.os ∧ AllBare s'.gens) s₁ := by
  have rv := vals_ints hi
  have hlen : (ns.map V.int).length ≤ sizeLine := by rw [List.length_map]; exact hl
  obtain ⟨H, lone⟩ := lone_of KX ha rv hlen
  have hok : HOk P w H s₁.heap := fun b u e => by
    rcases lone.only b with z | ⟨rfl, z, _⟩
    · rw [z] at e
      cases e
    · rw [z] at e
      cases e
      exact ⟨ha, hlen, vs, _, rv, ha⟩
  have kept : ∀ {b : Addr} {o : Obj}, s₁.heap.get? b = some o → H b = none → (hidT s₁.heap H).get? b = some o := fun e n => hidT_get e n
  have dict0 : ∀ {b : Addr} {o : Obj} {es : Array DictEntry} {ep : Nat}, s₁.heap.get? b = some o → o.data = .dict es ep → H b = none := fun {b o es ep} e d => by
    rcases lone.only b with z | ⟨rfl, _, _⟩
    · exact z
    · rw [ha] at e
      cases e
      exact nomatch (show Data.seq vs.toArray _ = Data.dict es ep from d)
  have ns0 : ∀ {b : Addr} {m : Str → Option Value}, s₁.heap.Ns b m → (hidT s₁.heap H).Ns b m := fun {b m} q => by
    obtain ⟨o, es, ep, e, d, r⟩ := q
    exact ⟨o, es, ep, kept e (dict0 e d), d, r⟩
  have kin : K.In (hidT s₁.heap H) := fun b o e => kept (KX b o e) (by
    rcases lone.only b with z | ⟨rfl, _, z⟩
    · exact z
    · rw [z] at e
      cases e)
  have lim0 : (hidT s₁.heap H).NoLimit := by
    obtain ⟨mc, h1, h2⟩ := hlim
    exact ⟨mc, ns0 h1, h2⟩
  have e0 : Env0 P w K mg (hidT s₁.heap H) callerA [] s₁ H := {
    frames := rfl
    mod := ⟨kin, ns0 hns, ⟨mb, ns0 hb, hbb⟩, lim0⟩
    bs := fun b o e => of_hidT e
    bsz := Nat.le_of_eq (hidT_size _ _)
    funs := trivial
    frf := fun b z => nomatch (show b ∈ ([] : List Addr) from z)
    hok := hok
    bare := .of_eq hg }
  refine codeAny_mono (F (hidT s₁.heap H) callerA [] s₁ H [.ref a] [.ref a] _ hr rfl e0 (.cons rfl .nil) (hsp H lone.sq)) fun r s' h => ?_
  rcases r with e | fl
  · exact False.elim h
  · cases fl with
    | ret u =>
      obtain ⟨v, H', os, bare, un, hok', r', q⟩ := h
      cases (show v = .bl true from q)
      cases (show u = Value.bool true from r')
      refine ⟨rfl, OldK.of_keep fun b o e => ?_, os, bare⟩
      rcases lone.only b with z | ⟨rfl, z, _⟩
      · exact un.keep b o e z (fun q => nomatch (show b ∈ ([] : List Addr) from q)) (by simp)
      · have z2 := un.frzs b _ _ z
        rw [ha] at e
        cases e
        exact (hok' b _ z2).1
    | next => exact False.elim h
    | brk => exact False.elim h
    | cont => exact False.elim h
theorem hr_nil {K : PySem.W.Frag} {H : Hp} : HRel K [] ⟨[], H⟩ H where
  le := LeF.refl _
  len := rfl
  inj := List.nodup_nil
  wf := fun n c z => by simp at z
  cell := fun n c a z _ => by simp at z
  trk := fun n a z => by simp at z
/-- the goal that a head leaves, from what the small program is worth -/
theorem walk_ofG {l : PySem.W.OpenLaw} {n k : Nat} {q : Program} {loose : List Str} {XP : (Str → Option Value) → Heap → Prop} {YP : World → Heap → Prop} {d : DefRec} {T : Str → Option Fn} {g : Gm} {m : Nat} {body : S} {own : Bool}
    (hn : l.most = some n) (hn2 : n ≤ sizeLine) (hdf : d.params.defaults = []) (hr : Room k callerA) (hT : T "law" = some (.fn m 1 [] body own))
    (F : ∀ (w : World) (mg : Str → Option Value) (fa : Addr) (h : Heap), YP w h → h.Ns mainGlobals mg → mg d.name = some (.ref fa) → ∃ K : PySem.W.Frag, K.In h ∧ Md K mg T g ∧ FnAt K fa m 1 [] body)
    (hok : ∀ ns : List Int, ns.length ≤ n → ∃ S, callF T g k "law" [.v (.scr ns)] [] = .ok (.v (.bl true), S)) :
    PySem.W.WalkO q loose XP YP l.row.toRowW d [] (fun f vs => PySem.call f vs) := by
  refine Att.attach_call hn hdf fun w s₀ s₁ mg mb fa o pm cd doc a vs ns G Y ho hd hcd hmg hobj hints hlen hg => ?_
  obtain ⟨K, KX, M, hF⟩ := F w mg fa _ Y G.T.g hmg
  refine law_callG KX G.T.g G.T.b G.T.builtins G.T.nolimit hg hobj hints (Nat.le_trans hlen hn2) hr (fun base => (all_ok M k).2 "law" fa m 1 [] body own hT hF) fun H hS => ?_
  obtain ⟨S, e⟩ := hok ns hlen
  refine ⟨⟨[], H⟩, [], [.v (.scr ns)], hr_nil, .cons ?_ .nil, ?_⟩
  · show RepP K H (.scr ns) (.ref a)
    unfold RepP
    exact ⟨a, rfl, hS, Nat.le_trans hlen hn2⟩
  · show RdG K (RepW K) _ (callF T g k "law" [.v (.scr ns)] []) _
    rw [e]
    intro w' v H' _ _ rv
    have rv' : RepP K w'.F (.bl true) v := rv
    unfold RepP at rv'
    exact rv'
end LS

set_option Elab.async false
set_option linter.all false
set_option maxRecDepth 100000
/-! LS18: small helps for a law's facts. -/
namespace LS
open PySem PySem.Spec PyProof.Rows L2
theorem all_nil {α : Type} {p : α → Prop} : ∀ x ∈ ([] : List α), p x := fun _ h => by cases h
theorem all_cons {α : Type} {p : α → Prop} {a : α} {l : List α} (h : p a) (t : ∀ x ∈ l, p x) : ∀ x ∈ a :: l, p x := fun x hx => by
  rcases List.mem_cons.mp hx with rfl | hx
  · exact h
  · exact t x hx
theorem mem_of_lookup {α : Type} {x : Str} {p : α} : ∀ {l : List (Str × α)}, l.lookup x = some p → (x, p) ∈ l
  | [], h => by cases h
  | (y, q) :: l, h => by
    rw [List.lookup_cons] at h
    cases e : (x == y) with
    | true =>
      rw [e] at h
      cases h
      rw [eq_of_beq e]
      exact List.mem_cons_self
    | false =>
      rw [e] at h
      exact List.mem_cons_of_mem _ (mem_of_lookup h)
section
variable {K : PySem.W.Frag} {mg : Str → Option Value} {T : Str → Option Fn}
def GloOk (K : PySem.W.Frag) (mg : Str → Option Value) (q : Str × P) : Prop := ∃ v u, mg q.1 = some u ∧ RelV v u ∧ ∀ F, RepP K F q.2 v
theorem glo_all {glos : List (Str × P)} (h : ∀ q ∈ glos, GloOk K mg q) : ∀ x p, glos.lookup x = some p → ∃ v u, mg x = some u ∧ RelV v u ∧ ∀ F, RepP K F p v := fun x p e => h (x, p) (mem_of_lookup e)
theorem g_str {x z : Str} (h : ∃ t, mg x = some (.str z t)) : GloOk K mg (x, .str z) := by
  obtain ⟨t, h⟩ := h
  exact ⟨.str z, _, h, ⟨t, rfl⟩, fun _ => P_str⟩
theorem g_int {x : Str} {z : Int} (h : ∃ t, mg x = some (.int z t)) : GloOk K mg (x, .int z) := by
  obtain ⟨t, h⟩ := h
  exact ⟨.int z, _, h, ⟨t, rfl⟩, fun _ => P_int⟩
theorem fld_all {flds : List (Str × Str)} (h : ∀ q ∈ flds, Cls K (He.ga K q.1) ∧ NoAttr K (He.ga K q.1) q.2) : ∀ c f, flds.contains (c, f) = true → Cls K (He.ga K c) ∧ NoAttr K (He.ga K c) f := fun c f e => h (c, f) (List.contains_iff_mem.mp e)
def FnOkG (K : PySem.W.Frag) (mg : Str → Option Value) (T : Str → Option Fn) (f : Str) : Prop := ∃ fa, mg f = some (.ref fa) ∧ PySem.W.keepIn K (.ref fa) = true ∧ At K T f fa
theorem fn_all {fns : List Str} (h : ∀ f ∈ fns, FnOkG K mg T f) : ∀ f, fns.contains f = true → ∃ fa, mg f = some (.ref fa) ∧ PySem.W.keepIn K (.ref fa) = true ∧ At K T f fa := fun f e => h f (List.contains_iff_mem.mp e)
theorem fn_def {f : Str} {x qual : Str} {params : Arguments} {bd : List Stmt} {scope : Scope} {dvs : List V} {kws : List (Str × V)} {n np : Nat} {dfl : List P} {body : S} {own : Bool} (hg : mg f = some (.ref (He.ga K f))) (hd : ∃ fd, FunD K x qual params bd scope dvs kws (He.fAd K (f, none)) fd)
    (hT : T f = some (.fn n np dfl body own)) (h : FnAt K (He.fAd K (f, none)) n np dfl body) : FnOkG K mg T f := by
  obtain ⟨fd, F⟩ := hd
  refine ⟨_, hg, F.kp, ?_⟩
  unfold At
  rw [hT]
  exact h
theorem fn_cls {f init : Str} {n np : Nat} {dfl : List P} {body : S} {own : Bool} (hg : mg f = some (.ref (He.ga K f))) (M : Mk K (He.ga K f) (He.ma K (He.ga K f) "__init__")) (hT : T f = some (.cls init)) (hi : T init = some (.fn n np dfl body own))
    (h : FnAt K (He.fAd K (f, some "__init__")) n np dfl body) : FnOkG K mg T f := by
  refine ⟨_, hg, M.kp, ?_⟩
  unfold At
  rw [hT]
  exact ⟨rfl, _, M, n, np, dfl, body, own, hi, h⟩
def MetOk (K : PySem.W.Frag) (T : Str → Option Fn) (q : Str × Str) : Prop := ∃ fa, Cls K (He.ga K q.1) ∧ Meth K (He.ga K q.1) q.2 fa ∧ At K T (q.1 ++ "." ++ q.2) fa
theorem met_all {mets : List (Str × Str)} (h : ∀ q ∈ mets, MetOk K T q) : ∀ c m, mets.contains (c, m) = true → ∃ fa, Cls K (He.ga K c) ∧ Meth K (He.ga K c) m fa ∧ At K T (c ++ "." ++ m) fa := fun c m e => h (c, m) (List.contains_iff_mem.mp e)
theorem met_def {c m : Str} {n np : Nat} {dfl : List P} {body : S} {own : Bool} (hc : Cls K (He.ga K c)) (hm : Meth K (He.ga K c) m (He.ma K (He.ga K c) m)) (hT : T (c ++ "." ++ m) = some (.fn n np dfl body own)) (h : FnAt K (He.fAd K (c, some m)) n np dfl body) : MetOk K T (c, m) := by
  refine ⟨_, hc, hm, ?_⟩
  unfold At
  rw [hT]
  exact h
end
end LS

set_option Elab.async false
set_option linter.all false
set_option maxRecDepth 100000
/-! LB: the small terms that laws share. -/
namespace LS
open PySem L2
def f__law_shapeO : S :=
  (.cons (.par [5, 6] (.cons (.call "_law_names" (.cons (.var 0) (.cons (.bin .add (.var 1) (.var 2)) .nil))) (.cons (.lst true .nil) .nil)))
  (.cons (.for_ (.name 3) (.it (.slc (.var 5) (.cons (.var 1) .nil) (.cons (.bin .add (.bin .add (.var 1) (.lit (.int 1))) (.call "_law_draw" (.cons (.var 0) (.cons (.var 2) .nil)))) .nil))) (.cons (.par [7, 8] (.cons (.call "_law_pick" (.cons (.var 0) (.cons (.slc (.var 5) .nil (.cons (.var 1) .nil)) .nil))) (.cons (.call "_law_pick" (.cons (.var 0) (.cons (.slc (.var 5) .nil (.cons (.var 1) .nil)) .nil))) .nil)))
  (.cons (.expr (.bm .append (.var 6) (.cons (.tup (.cons (.var 3) (.cons (.var 7) (.cons (.var 8) (.cons (.sub (.lst false (.cons (.lit (.str "fall")) (.cons (.lit (.str "fall")) (.cons (.lit (.str "clear")) .nil)))) (.call "_law_draw" (.cons (.var 0) (.cons (.lit (.int 3)) .nil)))) .nil))))) .nil)))
  .nil)))
  (.cons (.set 4 (.lc false [("_law_name", 3)] (.name 3) (.it (.slc (.var 5) .nil (.cons (.var 1) .nil))) .nil (.tup (.cons (.var 3) (.cons (.cmp .gt (.call "_law_draw" (.cons (.var 0) (.cons (.lit (.int 3)) .nil))) (.lit (.int 0))) .nil)))))
  (.cons (.ret (.dic true (.kv (.lit (.str "kinds")) (.var 4) (.kv (.lit (.str "columns")) (.var 6) (.kv (.lit (.str "checks")) (.lst false .nil) .nil)))))
  .nil))))
def f_Book_markableO : S :=
  (.cons (.set 1 (.lc false [("kind", 5)] (.name 5) (.it (.att (.var 0) "open_kinds")) (.cons (.sub (.att (.var 0) "open_kinds") (.var 5)) .nil) (.var 5)))
  (.cons (.set 2 (.var 1))
  (.cons (.whl (.cmp .gt (.bf .len (.cons (.var 2) .nil)) (.lit (.int 0))) (.cons (.set 3 (.lc false [("column", 6)] (.name 6) (.vals (.att (.var 0) "column_table")) (.cons (.cmp .eq (.att (.var 6) "rule") (.glo "FALL")) .nil) (.var 6)))
  (.cons (.set 4 (.lc false [("column", 6)] (.name 6) (.it (.var 3)) (.cons (.cmp .in_ (.att (.var 6) "goal") (.var 1)) .nil) (.att (.var 6) "home")))
  (.cons (.set 2 (.lc false [("kind", 5)] (.name 5) (.it (.att (.var 0) "open_kinds")) (.cons (.and (.cmp .in_ (.var 5) (.var 4)) (.cmp .nin (.var 5) (.var 1))) .nil) (.var 5)))
  (.cons (.set 1 (.bin .add (.var 1) (.var 2)))
  .nil)))))
  (.cons (.ret (.lc true [("kind", 5)] (.name 5) (.it (.att (.var 0) "open_kinds")) (.cons (.cmp .in_ (.var 5) (.var 1)) .nil) (.var 5)))
  .nil))))
def f__law_same : S :=
  (.cons (.ret (.cmp .eq (.bf .repr (.cons (.var 0) .nil)) (.bf .repr (.cons (.var 1) .nil))))
  .nil)
def f__law_draw : S :=
  (.cons (.sub (.var 0) (.lit (.int 2)) (.bin .add (.sub (.var 0) (.lit (.int 2))) (.lit (.int 1))))
  (.cons (.ite (.and (.cmp .eq (.sub (.var 0) (.lit (.int 1))) (.lit (.int 0))) (.cmp .ne (.sub (.var 0) (.lit (.int 0))) (.lst false .nil))) (.cons (.sub (.var 0) (.lit (.int 1)) (.bm .pop0 (.sub (.var 0) (.lit (.int 0))) (.cons (.lit (.int 0)) .nil)))
  (.cons (.ite (.cmp .lt (.sub (.var 0) (.lit (.int 1))) (.bin .pow (.lit (.int 10)) (.lit (.int 18)))) (.cons (.sub (.var 0) (.lit (.int 3)) (.bin .mod (.bf .int (.cons (.bin .add (.bin .add (.bin .mul (.sub (.var 0) (.lit (.int 3))) (.lit (.int 31))) (.sub (.var 0) (.lit (.int 1)))) (.lit (.int 7))) .nil)) (.lit (.int 2147483647))))
  (.cons (.sub (.var 0) (.lit (.int 1)) (.lit (.int 0)))
  .nil)) .nil)
  .nil)) .nil)
  (.cons (.ite (.cmp .gt (.sub (.var 0) (.lit (.int 1))) (.lit (.int 0))) (.cons (.set 3 (.bin .mod (.bf .int (.cons (.sub (.var 0) (.lit (.int 1))) .nil)) (.var 1)))
  (.cons (.sub (.var 0) (.lit (.int 1)) (.bin .fdiv (.sub (.var 0) (.lit (.int 1))) (.var 1)))
  (.cons (.ret (.var 3))
  .nil))) .nil)
  (.cons (.set 2 (.bin .mod (.bin .pow (.bin .add (.bin .add (.sub (.var 0) (.lit (.int 3))) (.bin .mul (.lit (.int 104729)) (.sub (.var 0) (.lit (.int 2))))) (.lit (.int 17))) (.lit (.int 5))) (.lit (.int 2147483629))))
  (.cons (.ret (.bin .mod (.bin .mod (.bin .pow (.bin .add (.bin .add (.bin .mul (.var 2) (.lit (.int 48271))) (.bin .mul (.bin .mul (.lit (.int 40503)) (.sub (.var 0) (.lit (.int 2)))) (.sub (.var 0) (.lit (.int 2))))) (.lit (.int 13))) (.lit (.int 3))) (.lit (.int 1000000007))) (.var 1)))
  .nil)))))
def f__law_checked : S :=
  (.cons (.set 2 (.sub (.lst false (.cons (.lit (.int 0)) (.cons (.lit (.int 2)) (.cons (.lit (.int 4)) (.cons (.lit (.int 6)) (.cons (.lit (.int 9)) (.cons (.lit (.int 12)) .nil))))))) (.call "_law_draw" (.cons (.var 0) (.cons (.lit (.int 6)) .nil)))))
  (.cons (.set 3 (.lc false [("_law_check", 4)] (.name 4) (.it (.call "_law_all_checks" (.cons (.var 1) .nil))) (.cons (.cmp .lt (.call "_law_draw" (.cons (.var 0) (.cons (.lit (.int 12)) .nil))) (.var 2)) .nil) (.var 4)))
  (.cons (.ret (.dic false (.kv (.lit (.str "kinds")) (.sub (.var 1) (.lit (.str "kinds"))) (.kv (.lit (.str "columns")) (.sub (.var 1) (.lit (.str "columns"))) (.kv (.lit (.str "checks")) (.var 3) .nil)))))
  .nil)))
def f__law_comes : S :=
  (.cons (.ite (.sub (.bf .dict (.cons (.sub (.var 0) (.lit (.str "kinds"))) .nil)) (.var 1)) (.cons (.ret (.lit (.bl true)))
  .nil) .nil)
  (.cons (.ite (.cmp .eq (.var 2) (.lit (.int 0))) (.cons (.ret (.lit (.bl false)))
  .nil) .nil)
  (.cons (.set 3 (.lc false [("_law_column", 4)] (.name 4) (.it (.sub (.var 0) (.lit (.str "columns")))) (.cons (.and (.cmp .eq (.sub (.var 4) (.lit (.int 1))) (.var 1)) (.cmp .eq (.sub (.var 4) (.lit (.int 3))) (.lit (.str "fall")))) .nil) (.sub (.var 4) (.lit (.int 2)))))
  (.cons (.ret (.bf .any (.cons (.lc false [("_law_goal", 5)] (.name 5) (.it (.var 3)) .nil (.call "_law_comes" (.cons (.var 0) (.cons (.var 5) (.cons (.bin .sub (.var 2) (.lit (.int 1))) .nil))))) .nil)))
  .nil))))
def f__law_names : S :=
  (.cons (.set 2 (.lst true .nil))
  (.cons (.for_ (.name 3) (.rng (.cons (.var 1) .nil)) (.cons (.expr (.bm .append (.var 2) (.cons (.call "_law_fresh" (.cons (.var 0) (.cons (.var 2) .nil))) .nil)))
  .nil))
  (.cons (.ret (.var 2))
  .nil)))
def f__law_pick : S :=
  (.cons (.ret (.sub (.var 1) (.call "_law_draw" (.cons (.var 0) (.cons (.bf .len (.cons (.var 1) .nil)) .nil)))))
  .nil)
def f_Book_init : S :=
  (.cons (.fld (.var 0) "open_kinds" (.call "kinds_of" (.cons (.var 1) .nil)))
  (.cons (.fld (.var 0) "column_rows" (.call "column_rows_of" (.cons (.var 2) (.cons (.att (.var 0) "open_kinds") .nil))))
  (.cons (.fld (.var 0) "column_table" (.dc false [("row", 4)] (.name 4) (.it (.att (.var 0) "column_rows")) .nil (.sub (.var 4) (.lit (.int 0))) (.make "Column" (.cons (.sub (.var 4) (.lit (.int 0))) (.cons (.sub (.var 4) (.lit (.int 1))) (.cons (.sub (.var 4) (.lit (.int 2))) (.cons (.sub (.var 4) (.lit (.int 3))) .nil)))))))
  (.cons (.fld (.var 0) "all_checks" (.call "menu_of" (.cons (.att (.var 0) "open_kinds") (.cons (.att (.var 0) "column_table") .nil))))
  (.cons (.fld (.var 0) "own_checks" (.call "checks_of" (.cons (.var 3) (.cons (.att (.var 0) "all_checks") .nil))))
  .nil)))))
def f__law_all_checks : S :=
  (.cons (.set 1 (.lst true .nil))
  (.cons (.for_ (.name 2) (.it (.sub (.var 0) (.lit (.str "columns")))) (.cons (.expr (.bm .extend (.var 1) (.cons (.lc false [("_law_word", 4)] (.name 4) (.it (.lst false (.cons (.lit (.str "put")) (.cons (.lit (.str "turn")) (.cons (.lit (.str "keep")) (.cons (.lit (.str "hold")) (.cons (.lit (.str "again")) .nil))))))) .nil (.bin .add (.bin .add (.var 4) (.lit (.str " "))) (.sub (.var 2) (.lit (.int 0))))) .nil)))
  .nil))
  (.cons (.for_ (.name 3) (.it (.sub (.var 0) (.lit (.str "kinds")))) (.cons (.expr (.bm .extend (.var 1) (.cons (.lc false [("_law_word", 4)] (.name 4) (.it (.lst false (.cons (.lit (.str "bare")) (.cons (.lit (.str "calm")) (.cons (.lit (.str "again")) .nil))))) .nil (.bin .add (.bin .add (.var 4) (.lit (.str " "))) (.sub (.var 3) (.lit (.int 0))))) .nil)))
  .nil))
  (.cons (.ret (.bin .add (.var 1) (.lst false (.cons (.lit (.str "lone")) (.cons (.lit (.str "fresh")) .nil)))))
  .nil))))
def f__law_fresh : S :=
  (.cons (.par [4, 2] (.cons (.lit (.str "abcdefghijklmnopqrstuvwxyz")) (.cons (.lst false (.cons (.lit (.str "kind")) (.cons (.lit (.str "open")) (.cons (.lit (.str "column")) (.cons (.lit (.str "from")) (.cons (.lit (.str "to")) (.cons (.lit (.str "check")) (.cons (.lit (.str "fall")) .nil)))))))) .nil)))
  (.cons (.set 2 (.bin .add (.var 2) (.lst false (.cons (.lit (.str "clear")) (.cons (.lit (.str "lone")) (.cons (.lit (.str "fresh")) (.cons (.lit (.str "put")) (.cons (.lit (.str "turn")) (.cons (.lit (.str "fell")) (.cons (.lit (.str "spread")) (.cons (.lit (.str "stuck")) (.cons (.lit (.str "again")) (.cons (.lit (.str "bare")) (.cons (.lit (.str "hold")) .nil))))))))))))))
  (.cons (.set 3 (.bm .join (.lit (.str "")) (.cons (.lc false [("_law_k", 5)] (.name 5) (.rng (.cons (.bin .add (.lit (.int 1)) (.call "_law_draw" (.cons (.var 0) (.cons (.lit (.int 8)) .nil)))) .nil)) .nil (.sub (.var 4) (.call "_law_draw" (.cons (.var 0) (.cons (.lit (.int 26)) .nil))))) .nil)))
  (.cons (.set 3 (.ite (.cmp .eq (.call "_law_draw" (.cons (.var 0) (.cons (.lit (.int 8)) .nil))) (.lit (.int 0))) (.sub (.var 2) (.call "_law_draw" (.cons (.var 0) (.cons (.lit (.int 18)) .nil)))) (.var 3)))
  (.cons (.ite (.or (.cmp .in_ (.var 3) (.var 1)) (.cmp .eq (.var 3) (.lit (.str "strike")))) (.cons (.ret (.sub (.lc false [("_law_one", 6)] (.name 6) (.it (.lc false [("_law_sign", 7)] (.name 7) (.it (.var 4)) .nil (.bin .add (.lit (.str "q")) (.var 7)))) (.cons (.cmp .nin (.var 6) (.var 1)) .nil) (.var 6)) (.lit (.int 0))))
  .nil) .nil)
  (.cons (.ret (.var 3))
  .nil))))))
def f_kinds_of : S :=
  (.cons (.set 1 (.dic true .nil))
  (.cons (.for_ (.tup [2, 3]) (.it (.var 0)) (.cons (.expr (.call "check_fresh" (.cons (.var 2) (.cons (.var 1) .nil))))
  (.cons (.sub (.var 1) (.var 2) (.var 3))
  .nil)))
  (.cons (.ret (.var 1))
  .nil)))
def f_column_rows_of : S :=
  (.cons (.set 2 (.lst true .nil))
  (.cons (.for_ (.tup [3, 4, 5, 6]) (.it (.var 0)) (.cons (.expr (.call "check_fresh" (.cons (.var 3) (.cons (.lst false (.star (.var 1) (.star (.lc false [("row", 8)] (.name 8) (.it (.var 2)) .nil (.sub (.var 8) (.lit (.int 0)))) .nil))) .nil))))
  (.cons (.for_ (.name 7) (.it (.tup (.cons (.var 4) (.cons (.var 5) .nil)))) (.cons (.ite (.not (.call "stands_in" (.cons (.var 7) (.cons (.var 1) .nil)))) (.cons (.raise "UnknownKind" (.cons (.var 7) .nil))
  .nil) .nil)
  .nil))
  (.cons (.ite (.not (.call "stands_in" (.cons (.var 6) (.cons (.tup (.cons (.glo "FALL") (.cons (.glo "CLEAR") .nil))) .nil)))) (.cons (.raise "BadRule" (.cons (.var 6) .nil))
  .nil) .nil)
  (.cons (.expr (.bm .append (.var 2) (.cons (.tup (.cons (.var 3) (.cons (.var 4) (.cons (.var 5) (.cons (.var 6) .nil))))) .nil)))
  .nil)))))
  (.cons (.ret (.var 2))
  .nil)))
def f_menu_of : S :=
  (.cons (.set 2 (.lst true .nil))
  (.cons (.for_ (.name 3) (.it (.var 1)) (.cons (.expr (.bm .extend (.var 2) (.cons (.lc false [("sort", 4)] (.name 4) (.it (.tup (.cons (.lit (.str "put")) (.cons (.lit (.str "turn")) (.cons (.lit (.str "keep")) (.cons (.lit (.str "hold")) (.cons (.lit (.str "again")) .nil))))))) .nil (.fstr (.cons (.var 4) (.star (.lit (.str " ")) (.cons (.var 3) .nil))))) .nil)))
  .nil))
  (.cons (.for_ (.name 3) (.it (.var 0)) (.cons (.expr (.bm .extend (.var 2) (.cons (.lc false [("sort", 4)] (.name 4) (.it (.tup (.cons (.lit (.str "bare")) (.cons (.lit (.str "calm")) (.cons (.lit (.str "again")) .nil))))) .nil (.fstr (.cons (.var 4) (.star (.lit (.str " ")) (.cons (.var 3) .nil))))) .nil)))
  .nil))
  (.cons (.ret (.lst false (.star (.var 2) (.cons (.lit (.str "lone")) (.cons (.lit (.str "fresh")) .nil)))))
  .nil))))
def f_checks_of : S :=
  (.cons (.for_ (.name 2) (.it (.var 0)) (.cons (.ite (.not (.call "stands_in" (.cons (.var 2) (.cons (.var 1) .nil)))) (.cons (.raise "UnknownCheck" (.cons (.var 2) .nil))
  .nil) .nil)
  .nil))
  (.cons (.ret (.lc false [("check", 2)] (.name 2) (.it (.var 1)) (.cons (.cmp .in_ (.var 2) (.bf .list (.cons (.var 0) .nil))) .nil) (.var 2)))
  .nil))
def f_check_fresh : S :=
  (.cons (.ite (.not (.call "is_name" (.cons (.var 0) .nil))) (.cons (.raise "BadName" (.cons (.var 0) .nil))
  .nil) .nil)
  (.cons (.ite (.cmp .in_ (.var 0) (.var 1)) (.cons (.raise "NameInUse" (.cons (.var 0) .nil))
  .nil) .nil)
  .nil))
def f_stands_in : S :=
  (.cons (.ret (.and (.bf .isStr (.cons (.var 0) .nil)) (.cmp .in_ (.var 0) (.var 1))))
  .nil)
def f_Column_init : S :=
  (.cons (.fld (.var 0) "word" (.var 1))
  (.cons (.fld (.var 0) "home" (.var 2))
  (.cons (.fld (.var 0) "goal" (.var 3))
  (.cons (.fld (.var 0) "rule" (.var 4))
  .nil))))
def f_is_name : S :=
  (.cons (.ite (.or (.not (.bf .isStr (.cons (.var 0) .nil))) (.or (.not (.chn .le .le (.lit (.int 1)) (.bf .len (.cons (.var 0) .nil)) (.lit (.int 8)))) (.cmp .eq (.var 0) (.glo "STRUCK")))) (.cons (.ret (.lit (.bl false)))
  .nil) .nil)
  (.cons (.ret (.bf .all (.cons (.lc false [("letter", 1)] (.name 1) (.it (.var 0)) .nil (.cmp .in_ (.var 1) (.glo "LETTERS"))) .nil)))
  .nil))
def f__law_bared : S :=
  (.cons (.for_ (.tup [2, 3]) (.it (.sub (.var 1) (.lit (.str "kinds")))) (.cons (.ite (.and (.cmp .gt (.call "_law_draw" (.cons (.var 0) (.cons (.lit (.int 5)) .nil))) (.lit (.int 0))) (.not (.call "_law_checks" (.cons (.var 1) (.cons (.lit (.str "bare")) (.cons (.var 2) .nil)))))) (.cons (.set 1 (.call "_law_with" (.cons (.var 1) (.cons (.bin .add (.lit (.str "bare ")) (.var 2)) .nil))))
  .nil) .nil)
  .nil))
  (.cons (.ret (.var 1))
  .nil))
def f_ranksO : S :=
  (.cons (.set 1 (.dc true [("kind", 5)] (.name 5) (.it (.call "tight_kinds" (.cons (.var 0) .nil))) .nil (.var 5) (.lit (.int 0))))
  (.cons (.for_ (.name 2) (.rng (.cons (.bin .add (.bf .len (.cons (.var 1) .nil)) (.lit (.int 1))) .nil)) (.cons (.set 3 (.bf .dict (.cons (.var 1) .nil)))
  (.cons (.for_ (.name 4) (.it (.call "tight_columns" (.cons (.var 0) .nil))) (.cons (.sub (.var 1) (.att (.var 4) "home") (.mx (.cons (.bf .int (.cons (.sub (.var 1) (.att (.var 4) "home")) .nil)) (.cons (.bin .add (.bf .int (.cons (.sub (.var 3) (.att (.var 4) "goal")) .nil)) (.lit (.int 1))) .nil))))
  .nil))
  (.cons (.ite (.cmp .eq (.var 1) (.var 3)) (.cons (.ret (.listItems true (.var 1)))
  .nil) .nil)
  .nil))))
  (.cons (.ret (.lit .non))
  .nil)))
def f__law_rules : S :=
  (.cons (.ret (.call "_law_checked" (.cons (.var 0) (.cons (.call "_law_shape" (.cons (.var 0) (.cons (.bin .add (.lit (.int 1)) (.call "_law_draw" (.cons (.var 0) (.cons (.var 1) .nil)))) (.cons (.var 2) .nil)))) .nil))))
  .nil)
def f__law_made : S :=
  (.cons (.ret (.make "Book" (.cons (.sub (.var 0) (.lit (.str "kinds"))) (.cons (.sub (.var 0) (.lit (.str "columns"))) (.cons (.sub (.var 0) (.lit (.str "checks"))) .nil)))))
  .nil)
def f__law_ranks : S :=
  (.cons (.par [1, 2, 3] (.cons (.call "_law_tight" (.cons (.var 0) .nil)) (.cons (.call "_law_ties" (.cons (.var 0) .nil)) (.cons (.dic true .nil) .nil))))
  (.cons (.whl (.cmp .ne (.var 1) (.lst false .nil)) (.cons (.set 4 (.lc false [("_law_kind", 5)] (.name 5) (.it (.var 1)) (.cons (.cmp .eq (.lc false [("_law_tie", 8)] (.name 8) (.it (.var 2)) (.cons (.and (.cmp .eq (.sub (.var 8) (.lit (.int 0))) (.var 5)) (.cmp .in_ (.sub (.var 8) (.lit (.int 1))) (.var 1))) .nil) (.var 8)) (.lst false .nil)) .nil) (.var 5)))
  (.cons (.ite (.cmp .eq (.var 4) (.lst false .nil)) (.cons (.ret (.lit .non))
  .nil) .nil)
  (.cons (.for_ (.name 5) (.it (.var 4)) (.cons (.sub (.var 3) (.var 5) (.lit (.int 0)))
  (.cons (.for_ (.tup [6, 7]) (.it (.var 2)) (.cons (.ite (.and (.cmp .eq (.var 6) (.var 5)) (.cmp .ge (.sub (.var 3) (.var 7)) (.sub (.var 3) (.var 5)))) (.cons (.sub (.var 3) (.var 5) (.bin .add (.sub (.var 3) (.var 7)) (.lit (.int 1))))
  .nil) .nil)
  .nil))
  .nil)))
  (.cons (.set 1 (.lc false [("_law_kind", 5)] (.name 5) (.it (.var 1)) (.cons (.cmp .nin (.var 5) (.var 4)) .nil) (.var 5)))
  .nil)))))
  (.cons (.ret (.lc false [("_law_kind", 5)] (.name 5) (.it (.call "_law_tight" (.cons (.var 0) .nil))) .nil (.tup (.cons (.var 5) (.cons (.sub (.var 3) (.var 5)) .nil)))))
  .nil)))
def f__law_with : S :=
  (.cons (.ret (.dic false (.kv (.lit (.str "kinds")) (.sub (.var 0) (.lit (.str "kinds"))) (.kv (.lit (.str "columns")) (.sub (.var 0) (.lit (.str "columns"))) (.kv (.lit (.str "checks")) (.bin .add (.sub (.var 0) (.lit (.str "checks"))) (.lst false (.cons (.var 1) .nil))) .nil)))))
  .nil)
def f__law_checks : S :=
  (.cons (.ret (.cmp .in_ (.bin .add (.bin .add (.var 1) (.lit (.str " "))) (.var 2)) (.sub (.var 0) (.lit (.str "checks")))))
  .nil)
def f_tight_columns : S :=
  (.cons (.set 1 (.call "tight_kinds" (.cons (.var 0) .nil)))
  (.cons (.set 2 (.lc false [("column", 3)] (.name 3) (.vals (.att (.var 0) "column_table")) (.cons (.cmp .eq (.att (.var 3) "rule") (.glo "FALL")) .nil) (.var 3)))
  (.cons (.ret (.lc false [("column", 3)] (.name 3) (.it (.var 2)) (.cons (.and (.cmp .in_ (.att (.var 3) "home") (.var 1)) (.cmp .in_ (.att (.var 3) "goal") (.var 1))) .nil) (.var 3)))
  .nil)))
def f_tight_kinds : S :=
  (.cons (.ret (.lc false [("kind", 1)] (.name 1) (.it (.meth (.var 0) "markable" .nil)) (.cons (.has false (.fstr (.star (.lit (.str "bare ")) (.cons (.var 1) .nil))) (.var 0)) .nil) (.var 1)))
  .nil)
def f__law_shape : S :=
  (.cons (.par [5, 6] (.cons (.call "_law_names" (.cons (.var 0) (.cons (.bin .add (.var 1) (.var 2)) .nil))) (.cons (.lst true .nil) .nil)))
  (.cons (.for_ (.name 3) (.it (.slc (.var 5) (.cons (.var 1) .nil) (.cons (.bin .add (.bin .add (.var 1) (.lit (.int 1))) (.call "_law_draw" (.cons (.var 0) (.cons (.var 2) .nil)))) .nil))) (.cons (.par [7, 8] (.cons (.call "_law_pick" (.cons (.var 0) (.cons (.slc (.var 5) .nil (.cons (.var 1) .nil)) .nil))) (.cons (.call "_law_pick" (.cons (.var 0) (.cons (.slc (.var 5) .nil (.cons (.var 1) .nil)) .nil))) .nil)))
  (.cons (.expr (.bm .append (.var 6) (.cons (.tup (.cons (.var 3) (.cons (.var 7) (.cons (.var 8) (.cons (.sub (.lst false (.cons (.lit (.str "fall")) (.cons (.lit (.str "fall")) (.cons (.lit (.str "clear")) .nil)))) (.call "_law_draw" (.cons (.var 0) (.cons (.lit (.int 3)) .nil)))) .nil))))) .nil)))
  .nil)))
  (.cons (.set 4 (.lc false [("_law_name", 3)] (.name 3) (.it (.slc (.var 5) .nil (.cons (.var 1) .nil))) .nil (.tup (.cons (.var 3) (.cons (.cmp .gt (.call "_law_draw" (.cons (.var 0) (.cons (.lit (.int 3)) .nil))) (.lit (.int 0))) .nil)))))
  (.cons (.ret (.dic false (.kv (.lit (.str "kinds")) (.var 4) (.kv (.lit (.str "columns")) (.var 6) (.kv (.lit (.str "checks")) (.lst false .nil) .nil)))))
  .nil))))
def f__law_tight : S :=
  (.cons (.ret (.lc false [("_law_kind", 1)] (.name 1) (.it (.call "_law_markable" (.cons (.var 0) .nil))) (.cons (.call "_law_checks" (.cons (.var 0) (.cons (.lit (.str "bare")) (.cons (.var 1) .nil)))) .nil) (.var 1)))
  .nil)
def f__law_ties : S :=
  (.cons (.set 1 (.call "_law_tight" (.cons (.var 0) .nil)))
  (.cons (.ret (.lc false [("_law_column", 2)] (.name 2) (.it (.sub (.var 0) (.lit (.str "columns")))) (.cons (.and (.cmp .eq (.sub (.var 2) (.lit (.int 3))) (.lit (.str "fall"))) (.and (.cmp .in_ (.sub (.var 2) (.lit (.int 1))) (.var 1)) (.cmp .in_ (.sub (.var 2) (.lit (.int 2))) (.var 1)))) .nil) (.slc (.var 2) (.cons (.lit (.int 1)) .nil) (.cons (.lit (.int 3)) .nil))))
  .nil))
def f_Book_markable : S :=
  (.cons (.set 1 (.lc false [("kind", 5)] (.name 5) (.it (.att (.var 0) "open_kinds")) (.cons (.sub (.att (.var 0) "open_kinds") (.var 5)) .nil) (.var 5)))
  (.cons (.set 2 (.var 1))
  (.cons (.whl (.cmp .gt (.bf .len (.cons (.var 2) .nil)) (.lit (.int 0))) (.cons (.set 3 (.lc false [("column", 6)] (.name 6) (.vals (.att (.var 0) "column_table")) (.cons (.cmp .eq (.att (.var 6) "rule") (.glo "FALL")) .nil) (.var 6)))
  (.cons (.set 4 (.lc false [("column", 6)] (.name 6) (.it (.var 3)) (.cons (.cmp .in_ (.att (.var 6) "goal") (.var 1)) .nil) (.att (.var 6) "home")))
  (.cons (.set 2 (.lc false [("kind", 5)] (.name 5) (.it (.att (.var 0) "open_kinds")) (.cons (.and (.cmp .in_ (.var 5) (.var 4)) (.cmp .nin (.var 5) (.var 1))) .nil) (.var 5)))
  (.cons (.set 1 (.bin .add (.var 1) (.var 2)))
  .nil)))))
  (.cons (.ret (.lc false [("kind", 5)] (.name 5) (.it (.att (.var 0) "open_kinds")) (.cons (.cmp .in_ (.var 5) (.var 1)) .nil) (.var 5)))
  .nil))))
def f_Book_contains : S :=
  (.cons (.ret (.call "stands_in" (.cons (.var 1) (.cons (.att (.var 0) "own_checks") .nil))))
  .nil)
def f__law_markable : S :=
  (.cons (.set 1 (.lc false [("_law_kind", 3), ("_law_is_open", 4)] (.tup [3, 4]) (.it (.sub (.var 0) (.lit (.str "kinds")))) (.cons (.var 4) .nil) (.var 3)))
  (.cons (.for_ (.name 2) (.it (.sub (.var 0) (.lit (.str "kinds")))) (.cons (.set 1 (.bin .add (.var 1) (.lc false [("_law_column", 5)] (.name 5) (.it (.sub (.var 0) (.lit (.str "columns")))) (.cons (.and (.cmp .eq (.sub (.var 5) (.lit (.int 3))) (.lit (.str "fall"))) (.cmp .in_ (.sub (.var 5) (.lit (.int 2))) (.var 1))) .nil) (.sub (.var 5) (.lit (.int 1))))))
  .nil))
  (.cons (.ret (.lc false [("_law_kind", 3), ("_law_is_open", 4)] (.tup [3, 4]) (.it (.sub (.var 0) (.lit (.str "kinds")))) (.cons (.cmp .in_ (.var 3) (.var 1)) .nil) (.var 3)))
  .nil)))
def f__law_pairs : S :=
  (.cons (.par [2, 3] (.cons (.bf .dict (.cons (.or (.call "_law_ranks" (.cons (.var 1) .nil)) (.lst false .nil)) .nil)) (.cons (.lst true .nil) .nil)))
  (.cons (.for_ (.tup [4, 5]) (.it (.call "_law_mixed" (.cons (.var 0) (.cons (.sub (.var 1) (.lit (.str "kinds"))) .nil)))) (.cons (.set 6 (.call "_law_draw" (.cons (.var 0) (.cons (.lit (.int 8)) .nil))))
  (.cons (.set 7 (.bin .add (.bin .mul (.get2 (.var 2) (.var 4) (.call "_law_draw" (.cons (.var 0) (.cons (.lit (.int 3)) .nil)))) (.lit (.int 2))) (.bin .mul (.bin .pow (.lit (.int 10)) (.lit (.int 29))) (.pf .intB (.cmp .eq (.var 6) (.lit (.int 5)))))))
  (.cons (.ite (.cmp .eq (.var 6) (.lit (.int 0))) (.cons (.set 7 (.call "_law_pick" (.cons (.var 0) (.cons (.lst false (.cons (.lit (.int (-1))) (.cons (.lit (.bl true)) (.cons (.lit .non) (.cons (.lit (.str "1")) (.cons (.tup (.cons (.lit (.int 1)) .nil)) (.cons (.lit (.int 0)) .nil))))))) .nil))))
  .nil) .nil)
  (.cons (.ite (.or (.cmp .lt (.var 6) (.lit (.int 6))) (.and (.cmp .in_ (.var 4) (.var 2)) (.cmp .eq (.var 6) (.lit (.int 6))))) (.cons (.expr (.bm .append (.var 3) (.cons (.tup (.cons (.var 4) (.cons (.var 7) .nil))) .nil)))
  .nil) .nil)
  .nil)))))
  (.cons (.ite (.cmp .eq (.call "_law_draw" (.cons (.var 0) (.cons (.lit (.int 10)) .nil))) (.lit (.int 0))) (.cons (.expr (.bm .append (.var 3) (.cons (.tup (.cons (.call "_law_pick" (.cons (.var 0) (.cons (.lst false (.cons (.sub (.sub (.sub (.var 1) (.lit (.str "kinds"))) (.lit (.int 0))) (.lit (.int 0))) (.cons (.sub (.sub (.sub (.var 1) (.lit (.str "columns"))) (.lit (.int 0))) (.lit (.int 0))) (.cons (.lit (.str "zz")) .nil)))) .nil))) (.cons (.lit (.int 7)) .nil))) .nil)))
  .nil) .nil)
  (.cons (.ret (.lc false [("_law_pair", 8)] (.name 8) (.it (.var 3)) .nil (.ite (.cmp .eq (.call "_law_draw" (.cons (.var 0) (.cons (.lit (.int 3)) .nil))) (.lit (.int 0))) (.bf .list (.cons (.var 8) .nil)) (.var 8))))
  .nil))))
def f_is_paper : S :=
  (.cons (.ite (.cmp .eq (.call "checked_question" (.cons (.var 0) (.cons (.var 1) .nil))) (.lit (.str "stuck"))) (.cons (.ret (.call "is_rank_paper" (.cons (.var 0) (.cons (.var 2) .nil))))
  .nil) .nil)
  (.cons (.par [5, 6] (.cons (.call "watch_of" (.cons (.var 0) (.cons (.var 1) .nil))) (.cons (.sub (.bm .split (.var 1) (.cons (.lit (.str " ")) .nil)) (.lit (.int 0))) .nil)))
  (.cons (.ite (.or (.not (.call "is_row_of" (.cons (.var 2) .nil))) (.not (.bf .all (.cons (.lc false [("state", 4)] (.name 4) (.it (.var 2)) .nil (.and (.call "is_row_of" (.cons (.var 4) .nil)) (.meth (.var 5) "is_state" (.cons (.var 4) .nil)))) .nil)))) (.cons (.ret (.lit (.bl false)))
  .nil) .nil)
  (.cons (.set 3 (.dc false [("state", 4)] (.name 4) (.it (.var 2)) .nil (.pf .tuple (.var 4)) (.lit (.bl true))))
  (.cons (.ite (.or (.cmp .nin (.meth (.var 5) "begin" .nil) (.var 3)) (.bf .any (.cons (.lc false [("state", 4)] (.name 4) (.it (.var 3)) .nil (.meth (.var 5) "is_fault" (.cons (.var 6) (.cons (.var 4) (.cons (.lit (.str "")) .nil))))) .nil))) (.cons (.ret (.lit (.bl false)))
  .nil) .nil)
  (.cons (.for_ (.name 4) (.it (.var 3)) (.cons (.for_ (.tup [7, 8]) (.it (.call "behind_all" (.cons (.var 5) (.cons (.var 4) .nil)))) (.cons (.ite (.or (.cmp .nin (.var 7) (.var 3)) (.meth (.var 5) "is_fault" (.cons (.var 6) (.cons (.var 7) (.cons (.var 8) .nil))))) (.cons (.ret (.lit (.bl false)))
  .nil) .nil)
  .nil))
  .nil))
  (.cons (.ret (.lit (.bl true)))
  .nil)))))))
def f__law_falls : S :=
  (.cons (.set 2 (.lc false [("_law_pair", 6)] (.name 6) (.it (.var 1)) .nil (.sub (.var 6) (.lit (.int 0)))))
  (.cons (.ite (.or (.cmp .lt (.pf .lenSet (.var 2)) (.bf .len (.cons (.var 2) .nil))) (.cmp .ne (.lc false [("_law_kind", 4)] (.name 4) (.it (.var 2)) (.cons (.cmp .nin (.var 4) (.bf .dict (.cons (.sub (.var 0) (.lit (.str "kinds"))) .nil))) .nil) (.var 4)) (.lst false .nil))) (.cons (.ret (.lit (.bl false)))
  .nil) .nil)
  (.cons (.for_ (.tup [4, 5]) (.it (.var 1)) (.cons (.ite (.or (.not (.pf .isInt (.var 5))) (.or (.pf .isBool (.var 5)) (.cmp .lt (.var 5) (.lit (.int 0))))) (.cons (.ret (.lit (.bl false)))
  .nil) .nil)
  .nil))
  (.cons (.ite (.cmp .ne (.lc false [("_law_kind", 4)] (.name 4) (.it (.call "_law_tight" (.cons (.var 0) .nil))) (.cons (.cmp .nin (.var 4) (.var 2)) .nil) (.var 4)) (.lst false .nil)) (.cons (.ret (.lit (.bl false)))
  .nil) .nil)
  (.cons (.set 3 (.bf .dict (.cons (.lc false [("_law_pair", 6)] (.name 6) (.it (.var 1)) .nil (.tup (.cons (.sub (.var 6) (.lit (.int 0))) (.cons (.sub (.var 6) (.lit (.int 1))) .nil)))) .nil)))
  (.cons (.ret (.cmp .eq (.lc false [("_law_tie", 7)] (.name 7) (.it (.call "_law_ties" (.cons (.var 0) .nil))) (.cons (.cmp .le (.sub (.var 3) (.sub (.var 7) (.lit (.int 0)))) (.sub (.var 3) (.sub (.var 7) (.lit (.int 1))))) .nil) (.var 7)) (.lst false .nil)))
  .nil))))))
def f__law_mixed : S :=
  (.cons (.set 2 (.listC (.var 1)))
  (.cons (.ret (.lc false [("_law_k", 3)] (.name 3) (.rng (.cons (.bf .len (.cons (.var 2) .nil)) .nil)) .nil (.bm .pop0 (.var 2) (.cons (.call "_law_draw" (.cons (.var 0) (.cons (.bf .len (.cons (.var 2) .nil)) .nil))) .nil))))
  .nil))
def f_checked_question : S :=
  (.cons (.ite (.not (.call "stands_in" (.cons (.var 1) (.cons (.meth (.var 0) "questions" .nil) .nil)))) (.cons (.raise "BadQuestion" (.cons (.var 1) .nil))
  .nil) .nil)
  (.cons (.ret (.var 1))
  .nil))
def f_is_rank_paper : S :=
  (.cons (.ite (.or (.not (.call "is_row_of" (.cons (.var 1) .nil))) (.not (.bf .all (.cons (.lc false [("pair", 6)] (.name 6) (.it (.var 1)) .nil (.and (.call "is_row_of" (.cons (.var 6) .nil)) (.cmp .eq (.bf .len (.cons (.var 6) .nil)) (.lit (.int 2))))) .nil)))) (.cons (.ret (.lit (.bl false)))
  .nil) .nil)
  (.cons (.ite (.not (.bf .all (.cons (.lc false [("kind", 3), ("number", 4)] (.tup [3, 4]) (.it (.var 1)) .nil (.and (.call "stands_in" (.cons (.var 3) (.cons (.att (.var 0) "open_kinds") .nil))) (.call "is_number" (.cons (.var 4) .nil)))) .nil))) (.cons (.ret (.lit (.bl false)))
  .nil) .nil)
  (.cons (.set 2 (.dc false [("kind", 3), ("number", 4)] (.tup [3, 4]) (.it (.var 1)) .nil (.var 3) (.var 4)))
  (.cons (.ite (.or (.cmp .lt (.bf .len (.cons (.var 2) .nil)) (.bf .len (.cons (.var 1) .nil))) (.not (.bf .all (.cons (.lc false [("kind", 3)] (.name 3) (.it (.call "tight_kinds" (.cons (.var 0) .nil))) .nil (.cmp .in_ (.var 3) (.var 2))) .nil)))) (.cons (.ret (.lit (.bl false)))
  .nil) .nil)
  (.cons (.ret (.bf .all (.cons (.lc false [("column", 5)] (.name 5) (.it (.call "tight_columns" (.cons (.var 0) .nil))) .nil (.cmp .gt (.sub (.var 2) (.att (.var 5) "home")) (.sub (.var 2) (.att (.var 5) "goal")))) .nil)))
  .nil)))))
def f_is_row_of : S :=
  (.cons (.ret (.pf .isRow (.var 0)))
  .nil)
def f_Book_questions : S :=
  (.cons (.set 1 (.lst true .nil))
  (.cons (.for_ (.tup [2, 3]) (.items (.att (.var 0) "column_table")) (.cons (.expr (.bm .extend (.var 1) (.cons (.lst false (.cons (.fstr (.star (.lit (.str "loose ")) (.cons (.var 2) .nil))) (.cons (.fstr (.star (.lit (.str "half ")) (.cons (.var 2) .nil))) .nil))) .nil)))
  (.cons (.expr (.bm .append (.var 1) (.cons (.ite (.cmp .eq (.att (.var 3) "rule") (.glo "FALL")) (.fstr (.star (.lit (.str "unjust ")) (.cons (.var 2) .nil))) (.fstr (.star (.lit (.str "spoilt ")) (.cons (.var 2) .nil)))) .nil)))
  .nil)))
  (.cons (.expr (.bm .extend (.var 1) (.cons (.lc false [("kind", 4)] (.name 4) (.it (.att (.var 0) "open_kinds")) .nil (.fstr (.star (.lit (.str "undue ")) (.cons (.var 4) .nil)))) .nil)))
  (.cons (.ret (.lst false (.star (.var 1) (.cons (.lit (.str "stuck")) .nil))))
  .nil))))
def f_is_number : S :=
  (.cons (.ret (.and (.pf .isInt (.var 0)) (.and (.not (.pf .isBool (.var 0))) (.cmp .ge (.var 0) (.lit (.int 0))))))
  .nil)
end LS

set_option Elab.async false
set_option linter.all false
set_option maxRecDepth 100000
namespace LS
open PySem L2
def f_law : S :=
  (.cons (.set 1 (.lst true (.cons (.listC (.var 0)) (.cons (.lit (.int 0)) (.cons (.lit (.int 0)) (.cons (.lit (.int 0)) .nil))))))
  (.cons (.for_ (.name 2) (.rng (.cons (.lit (.int 2)) .nil)) (.cons (.set 3 (.call "_law_bared" (.cons (.var 1) (.cons (.call "_law_rules" (.cons (.var 1) (.cons (.lit (.int 3)) (.cons (.lit (.int 4)) .nil)))) .nil))))
  (.cons (.par [5, 6] (.cons (.call "_law_made" (.cons (.var 3) .nil)) (.cons (.call "_law_ranks" (.cons (.var 3) .nil)) .nil)))
  (.cons (.ite (.and (.cmp .notN (.var 6) (.lit .non)) (.not (.call "_law_same" (.cons (.call "is_paper" (.cons (.var 5) (.cons (.lit (.str "stuck")) (.cons (.var 6) .nil)))) (.cons (.lit (.bl true)) .nil))))) (.cons (.ret (.lit (.bl false)))
  .nil) .nil)
  (.cons (.for_ (.name 4) (.rng (.cons (.lit (.int 6)) .nil)) (.cons (.set 7 (.call "_law_pairs" (.cons (.var 1) (.cons (.var 3) .nil))))
  (.cons (.set 8 (.ite (.cmp .eq (.call "_law_draw" (.cons (.var 1) (.cons (.lit (.int 2)) .nil))) (.lit (.int 0))) (.pf .tuple (.var 7)) (.var 7)))
  (.cons (.ite (.not (.call "_law_same" (.cons (.call "is_paper" (.cons (.var 5) (.cons (.lit (.str "stuck")) (.cons (.var 8) .nil)))) (.cons (.call "_law_falls" (.cons (.var 3) (.cons (.var 7) .nil))) .nil)))) (.cons (.ret (.lit (.bl false)))
  .nil) .nil)
  .nil))))
  .nil)))))
  (.cons (.ret (.lit (.bl true)))
  .nil)))
def tab0 : List (Str × Fn) := [("law", .fn 9 1 [] f_law false), ("_law_bared", .fn 4 2 [] f__law_bared false), ("_law_rules", .fn 3 3 [] f__law_rules false), ("_law_made", .fn 1 1 [] f__law_made false), ("_law_ranks", .fn 9 1 [] f__law_ranks false), ("_law_pairs", .fn 9 2 [] f__law_pairs false), ("_law_same", .fn 2 2 [] f__law_same false), ("is_paper", .fn 9 3 [] f_is_paper false), ("_law_draw", .fn 4 2 [] f__law_draw false), ("_law_falls", .fn 8 2 [] f__law_falls false), ("_law_with", .fn 2 2 [] f__law_with false), ("_law_checks", .fn 3 3 [] f__law_checks false), ("_law_checked", .fn 5 2 [] f__law_checked false), ("_law_shape", .fn 9 3 [] f__law_shape false), ("Book", .cls "Book.__init__"), ("_law_tight", .fn 2 1 [] f__law_tight false), ("_law_ties", .fn 3 1 [] f__law_ties false), ("_law_mixed", .fn 4 2 [] f__law_mixed false), ("_law_pick", .fn 2 2 [] f__law_pick false), ("checked_question", .fn 2 2 [] f_checked_question false)]
def tab1 : List (Str × Fn) := [("is_rank_paper", .fn 7 2 [] f_is_rank_paper false), ("is_row_of", .fn 1 1 [] f_is_row_of false), ("_law_all_checks", .fn 5 1 [] f__law_all_checks false), ("_law_names", .fn 4 2 [] f__law_names false), ("Book.__init__", .fn 5 4 [] f_Book_init false), ("_law_markable", .fn 6 1 [] f__law_markable false), ("stands_in", .fn 2 2 [] f_stands_in false), ("Book.questions", .fn 5 1 [] f_Book_questions false), ("tight_columns", .fn 4 1 [] f_tight_columns false), ("is_number", .fn 1 1 [] f_is_number false), ("tight_kinds", .fn 2 1 [] f_tight_kinds false), ("_law_fresh", .fn 8 2 [] f__law_fresh false), ("kinds_of", .fn 4 1 [] f_kinds_of false), ("column_rows_of", .fn 9 2 [] f_column_rows_of false), ("menu_of", .fn 5 2 [] f_menu_of false), ("checks_of", .fn 3 2 [] f_checks_of false), ("Column", .cls "Column.__init__"), ("Book.markable", .fn 7 1 [] f_Book_markable false), ("Book.__contains__", .fn 2 2 [] f_Book_contains false), ("check_fresh", .fn 2 2 [] f_check_fresh false)]
def tab2 : List (Str × Fn) := [("Column.__init__", .fn 5 5 [] f_Column_init false), ("is_name", .fn 2 1 [] f_is_name false)]
def tab : List (Str × Fn) := tab0 ++ tab1 ++ tab2
def flds0 : List (Str × Str) := [("Book", "all_checks"), ("Book", "column_rows"), ("Book", "column_table"), ("Book", "open_kinds"), ("Book", "own_checks"), ("Column", "goal"), ("Column", "home"), ("Column", "rule"), ("Column", "word")]
def flds : List (Str × Str) := flds0
def mets0 : List (Str × Str) := [("Book", "questions"), ("Book", "markable"), ("Book", "__contains__")]
def mets : List (Str × Str) := mets0
def glos : List (Str × P) := [("CLEAR", (.str "clear")), ("FALL", (.str "fall")), ("LETTERS", (.str "abcdefghijklmnopqrstuvwxyz")), ("STRUCK", (.str "strike"))]
def fns0 : List Str := ["_law_bared", "_law_rules", "_law_made", "_law_ranks", "_law_pairs", "_law_same", "is_paper", "_law_draw", "_law_falls", "_law_with", "_law_checks", "_law_checked", "_law_shape", "Book", "_law_tight", "_law_ties", "_law_mixed", "_law_pick", "checked_question", "is_rank_paper"]
def fns1 : List Str := ["is_row_of", "_law_all_checks", "_law_names", "_law_markable", "stands_in", "tight_columns", "is_number", "tight_kinds", "_law_fresh", "kinds_of", "column_rows_of", "menu_of", "checks_of", "Column", "check_fresh", "is_name"]
def fns : List Str := fns0 ++ fns1
def T (f : Str) : Option Fn := tab.lookup f
def gm : Gm := ⟨6000, fun x => glos.lookup x, fun c f => flds.contains (c, f), fun f => fns.contains f, fun c m => mets.contains (c, m)⟩
end LS

set_option Elab.async false
set_option linter.all false
set_option maxRecDepth 100000
set_option maxHeartbeats 0
namespace LS
open PySem PySem.Spec PyProof.Rows L2
theorem sc_law : FnScope ["_law_script", "_law_stream", "_law_turn", "_law_b", "_law_k", "_law_book", "_law_due", "_law_paper", "_law_given"] ["_law_script"] (defScope s_law) := ⟨rfl, rfl, rfl, by decide +kernel, rfl, by decide +kernel, by decide +kernel⟩
theorem ch_law : chSs ⟨["_law_script", "_law_stream", "_law_turn", "_law_b", "_law_k", "_law_book", "_law_due", "_law_paper", "_law_given"], defScope s_law, fun _ => true⟩ f_law (defBody s_law) = true := by decide +kernel
theorem sc__law_bared : FnScope ["_law_stream", "_law_b", "_law_kind", "_law_is_open"] ["_law_stream", "_law_b"] (defScope s__law_bared) := ⟨rfl, rfl, rfl, by decide +kernel, rfl, by decide +kernel, by decide +kernel⟩
theorem ch__law_bared : chSs ⟨["_law_stream", "_law_b", "_law_kind", "_law_is_open"], defScope s__law_bared, fun _ => true⟩ f__law_bared (defBody s__law_bared) = true := by decide +kernel
theorem sc__law_rules : FnScope ["_law_stream", "_law_many", "_law_most"] ["_law_stream", "_law_many", "_law_most"] (defScope s__law_rules) := ⟨rfl, rfl, rfl, by decide +kernel, rfl, by decide +kernel, by decide +kernel⟩
theorem ch__law_rules : chSs ⟨["_law_stream", "_law_many", "_law_most"], defScope s__law_rules, fun _ => true⟩ f__law_rules (defBody s__law_rules) = true := by decide +kernel
theorem sc__law_made : FnScope ["_law_b"] ["_law_b"] (defScope s__law_made) := ⟨rfl, rfl, rfl, by decide +kernel, rfl, by decide +kernel, by decide +kernel⟩
theorem ch__law_made : chSs ⟨["_law_b"], defScope s__law_made, fun _ => true⟩ f__law_made (defBody s__law_made) = true := by decide +kernel
theorem sc__law_ranks : FnScope ["_law_b", "_law_left", "_law_ties_here", "_law_found", "_law_free", "_law_kind", "_law_home", "_law_goal", "_law_tie"] ["_law_b"] (defScope s__law_ranks) := ⟨rfl, rfl, rfl, by decide +kernel, rfl, by decide +kernel, by decide +kernel⟩
theorem ch__law_ranks : chSs ⟨["_law_b", "_law_left", "_law_ties_here", "_law_found", "_law_free", "_law_kind", "_law_home", "_law_goal", "_law_tie"], defScope s__law_ranks, fun _ => true⟩ f__law_ranks (defBody s__law_ranks) = true := by decide +kernel
theorem sc__law_pairs : FnScope ["_law_stream", "_law_b", "_law_told", "_law_found", "_law_kind", "_law_is_open", "_law_way", "_law_number", "_law_pair"] ["_law_stream", "_law_b"] (defScope s__law_pairs) := ⟨rfl, rfl, rfl, by decide +kernel, rfl, by decide +kernel, by decide +kernel⟩
theorem ch__law_pairs : chSs ⟨["_law_stream", "_law_b", "_law_told", "_law_found", "_law_kind", "_law_is_open", "_law_way", "_law_number", "_law_pair"], defScope s__law_pairs, fun _ => true⟩ f__law_pairs (defBody s__law_pairs) = true := by decide +kernel
theorem sc__law_same : FnScope ["_law_found", "_law_due"] ["_law_found", "_law_due"] (defScope s__law_same) := ⟨rfl, rfl, rfl, by decide +kernel, rfl, by decide +kernel, by decide +kernel⟩
theorem ch__law_same : chSs ⟨["_law_found", "_law_due"], defScope s__law_same, fun _ => true⟩ f__law_same (defBody s__law_same) = true := by decide +kernel
theorem sc_is_paper : FnScope ["book", "question", "paper", "states", "state", "watch", "word", "behind", "wrong"] ["book", "question", "paper"] (defScope s_is_paper) := ⟨rfl, rfl, rfl, by decide +kernel, rfl, by decide +kernel, by decide +kernel⟩
theorem ch_is_paper : chSs ⟨["book", "question", "paper", "states", "state", "watch", "word", "behind", "wrong"], defScope s_is_paper, fun _ => true⟩ f_is_paper (defBody s_is_paper) = true := by decide +kernel
theorem sc__law_draw : FnScope ["_law_stream", "_law_many", "_law_mixed_here", "_law_digit"] ["_law_stream", "_law_many"] (defScope s__law_draw) := ⟨rfl, rfl, rfl, by decide +kernel, rfl, by decide +kernel, by decide +kernel⟩
theorem ch__law_draw : chSs ⟨["_law_stream", "_law_many", "_law_mixed_here", "_law_digit"], defScope s__law_draw, fun _ => true⟩ f__law_draw (defBody s__law_draw) = true := by decide +kernel
theorem sc__law_falls : FnScope ["_law_b", "_law_paper", "_law_kinds", "_law_found", "_law_kind", "_law_number", "_law_pair", "_law_tie"] ["_law_b", "_law_paper"] (defScope s__law_falls) := ⟨rfl, rfl, rfl, by decide +kernel, rfl, by decide +kernel, by decide +kernel⟩
theorem ch__law_falls : chSs ⟨["_law_b", "_law_paper", "_law_kinds", "_law_found", "_law_kind", "_law_number", "_law_pair", "_law_tie"], defScope s__law_falls, fun _ => true⟩ f__law_falls (defBody s__law_falls) = true := by decide +kernel
theorem sc__law_with : FnScope ["_law_b", "_law_check"] ["_law_b", "_law_check"] (defScope s__law_with) := ⟨rfl, rfl, rfl, by decide +kernel, rfl, by decide +kernel, by decide +kernel⟩
theorem ch__law_with : chSs ⟨["_law_b", "_law_check"], defScope s__law_with, fun _ => true⟩ f__law_with (defBody s__law_with) = true := by decide +kernel
theorem sc__law_checks : FnScope ["_law_b", "_law_word", "_law_name"] ["_law_b", "_law_word", "_law_name"] (defScope s__law_checks) := ⟨rfl, rfl, rfl, by decide +kernel, rfl, by decide +kernel, by decide +kernel⟩
theorem ch__law_checks : chSs ⟨["_law_b", "_law_word", "_law_name"], defScope s__law_checks, fun _ => true⟩ f__law_checks (defBody s__law_checks) = true := by decide +kernel
theorem sc__law_checked : FnScope ["_law_stream", "_law_b", "_law_share", "_law_checks_here", "_law_check"] ["_law_stream", "_law_b"] (defScope s__law_checked) := ⟨rfl, rfl, rfl, by decide +kernel, rfl, by decide +kernel, by decide +kernel⟩
theorem ch__law_checked : chSs ⟨["_law_stream", "_law_b", "_law_share", "_law_checks_here", "_law_check"], defScope s__law_checked, fun _ => true⟩ f__law_checked (defBody s__law_checked) = true := by decide +kernel
theorem sc__law_shape : FnScope ["_law_stream", "_law_many", "_law_most", "_law_name", "_law_kinds", "_law_words", "_law_columns", "_law_home", "_law_goal"] ["_law_stream", "_law_many", "_law_most"] (defScope s__law_shape) := ⟨rfl, rfl, rfl, by decide +kernel, rfl, by decide +kernel, by decide +kernel⟩
theorem ch__law_shape : chSs ⟨["_law_stream", "_law_many", "_law_most", "_law_name", "_law_kinds", "_law_words", "_law_columns", "_law_home", "_law_goal"], defScope s__law_shape, fun _ => true⟩ f__law_shape (defBody s__law_shape) = true := by decide +kernel
theorem sc__law_tight : FnScope ["_law_b", "_law_kind"] ["_law_b"] (defScope s__law_tight) := ⟨rfl, rfl, rfl, by decide +kernel, rfl, by decide +kernel, by decide +kernel⟩
theorem ch__law_tight : chSs ⟨["_law_b", "_law_kind"], defScope s__law_tight, fun _ => true⟩ f__law_tight (defBody s__law_tight) = true := by decide +kernel
theorem sc__law_ties : FnScope ["_law_b", "_law_kinds", "_law_column"] ["_law_b"] (defScope s__law_ties) := ⟨rfl, rfl, rfl, by decide +kernel, rfl, by decide +kernel, by decide +kernel⟩
theorem ch__law_ties : chSs ⟨["_law_b", "_law_kinds", "_law_column"], defScope s__law_ties, fun _ => true⟩ f__law_ties (defBody s__law_ties) = true := by decide +kernel
theorem sc__law_mixed : FnScope ["_law_stream", "_law_things", "_law_left", "_law_k"] ["_law_stream", "_law_things"] (defScope s__law_mixed) := ⟨rfl, rfl, rfl, by decide +kernel, rfl, by decide +kernel, by decide +kernel⟩
theorem ch__law_mixed : chSs ⟨["_law_stream", "_law_things", "_law_left", "_law_k"], defScope s__law_mixed, fun _ => true⟩ f__law_mixed (defBody s__law_mixed) = true := by decide +kernel
theorem sc__law_pick : FnScope ["_law_stream", "_law_things"] ["_law_stream", "_law_things"] (defScope s__law_pick) := ⟨rfl, rfl, rfl, by decide +kernel, rfl, by decide +kernel, by decide +kernel⟩
theorem ch__law_pick : chSs ⟨["_law_stream", "_law_things"], defScope s__law_pick, fun _ => true⟩ f__law_pick (defBody s__law_pick) = true := by decide +kernel
theorem sc_checked_question : FnScope ["book", "question"] ["book", "question"] (defScope s_checked_question) := ⟨rfl, rfl, rfl, by decide +kernel, rfl, by decide +kernel, by decide +kernel⟩
theorem ch_checked_question : chSs ⟨["book", "question"], defScope s_checked_question, fun _ => true⟩ f_checked_question (defBody s_checked_question) = true := by decide +kernel
theorem sc_is_rank_paper : FnScope ["book", "paper", "found", "kind", "number", "column", "pair"] ["book", "paper"] (defScope s_is_rank_paper) := ⟨rfl, rfl, rfl, by decide +kernel, rfl, by decide +kernel, by decide +kernel⟩
theorem ch_is_rank_paper : chSs ⟨["book", "paper", "found", "kind", "number", "column", "pair"], defScope s_is_rank_paper, fun _ => true⟩ f_is_rank_paper (defBody s_is_rank_paper) = true := by decide +kernel
theorem sc_is_row_of : FnScope ["thing"] ["thing"] (defScope s_is_row_of) := ⟨rfl, rfl, rfl, by decide +kernel, rfl, by decide +kernel, by decide +kernel⟩
theorem ch_is_row_of : chSs ⟨["thing"], defScope s_is_row_of, fun _ => true⟩ f_is_row_of (defBody s_is_row_of) = true := by decide +kernel
theorem sc__law_all_checks : FnScope ["_law_b", "_law_found", "_law_column", "_law_kind", "_law_word"] ["_law_b"] (defScope s__law_all_checks) := ⟨rfl, rfl, rfl, by decide +kernel, rfl, by decide +kernel, by decide +kernel⟩
theorem ch__law_all_checks : chSs ⟨["_law_b", "_law_found", "_law_column", "_law_kind", "_law_word"], defScope s__law_all_checks, fun _ => true⟩ f__law_all_checks (defBody s__law_all_checks) = true := by decide +kernel
theorem sc__law_names : FnScope ["_law_stream", "_law_many", "_law_found", "_law_k"] ["_law_stream", "_law_many"] (defScope s__law_names) := ⟨rfl, rfl, rfl, by decide +kernel, rfl, by decide +kernel, by decide +kernel⟩
theorem ch__law_names : chSs ⟨["_law_stream", "_law_many", "_law_found", "_law_k"], defScope s__law_names, fun _ => true⟩ f__law_names (defBody s__law_names) = true := by decide +kernel
theorem sc_Book_init : FnScope ["self", "kinds", "columns", "checks", "row"] ["self", "kinds", "columns", "checks"] (defScope s_Book_init) := ⟨rfl, rfl, rfl, by decide +kernel, rfl, by decide +kernel, by decide +kernel⟩
theorem ch_Book_init : chSs ⟨["self", "kinds", "columns", "checks", "row"], defScope s_Book_init, fun _ => true⟩ f_Book_init (defBody s_Book_init) = true := by decide +kernel
theorem sc__law_markable : FnScope ["_law_b", "_law_found", "_law_turn", "_law_kind", "_law_is_open", "_law_column"] ["_law_b"] (defScope s__law_markable) := ⟨rfl, rfl, rfl, by decide +kernel, rfl, by decide +kernel, by decide +kernel⟩
theorem ch__law_markable : chSs ⟨["_law_b", "_law_found", "_law_turn", "_law_kind", "_law_is_open", "_law_column"], defScope s__law_markable, fun _ => true⟩ f__law_markable (defBody s__law_markable) = true := by decide +kernel
theorem sc_stands_in : FnScope ["thing", "names"] ["thing", "names"] (defScope s_stands_in) := ⟨rfl, rfl, rfl, by decide +kernel, rfl, by decide +kernel, by decide +kernel⟩
theorem ch_stands_in : chSs ⟨["thing", "names"], defScope s_stands_in, fun _ => true⟩ f_stands_in (defBody s_stands_in) = true := by decide +kernel
theorem sc_Book_questions : FnScope ["self", "found", "word", "column", "kind"] ["self"] (defScope s_Book_questions) := ⟨rfl, rfl, rfl, by decide +kernel, rfl, by decide +kernel, by decide +kernel⟩
theorem ch_Book_questions : chSs ⟨["self", "found", "word", "column", "kind"], defScope s_Book_questions, fun _ => true⟩ f_Book_questions (defBody s_Book_questions) = true := by decide +kernel
theorem sc_tight_columns : FnScope ["book", "kinds", "columns", "column"] ["book"] (defScope s_tight_columns) := ⟨rfl, rfl, rfl, by decide +kernel, rfl, by decide +kernel, by decide +kernel⟩
theorem ch_tight_columns : chSs ⟨["book", "kinds", "columns", "column"], defScope s_tight_columns, fun _ => true⟩ f_tight_columns (defBody s_tight_columns) = true := by decide +kernel
theorem sc_is_number : FnScope ["thing"] ["thing"] (defScope s_is_number) := ⟨rfl, rfl, rfl, by decide +kernel, rfl, by decide +kernel, by decide +kernel⟩
theorem ch_is_number : chSs ⟨["thing"], defScope s_is_number, fun _ => true⟩ f_is_number (defBody s_is_number) = true := by decide +kernel
theorem sc_tight_kinds : FnScope ["book", "kind"] ["book"] (defScope s_tight_kinds) := ⟨rfl, rfl, rfl, by decide +kernel, rfl, by decide +kernel, by decide +kernel⟩
theorem ch_tight_kinds : chSs ⟨["book", "kind"], defScope s_tight_kinds, fun _ => true⟩ f_tight_kinds (defBody s_tight_kinds) = true := by decide +kernel
theorem sc__law_fresh : FnScope ["_law_stream", "_law_taken", "_law_words", "_law_name", "_law_letters", "_law_k", "_law_one", "_law_sign"] ["_law_stream", "_law_taken"] (defScope s__law_fresh) := ⟨rfl, rfl, rfl, by decide +kernel, rfl, by decide +kernel, by decide +kernel⟩
theorem ch__law_fresh : chSs ⟨["_law_stream", "_law_taken", "_law_words", "_law_name", "_law_letters", "_law_k", "_law_one", "_law_sign"], defScope s__law_fresh, fun _ => true⟩ f__law_fresh (defBody s__law_fresh) = true := by decide +kernel
theorem sc_kinds_of : FnScope ["kinds", "found", "word", "is_open"] ["kinds"] (defScope s_kinds_of) := ⟨rfl, rfl, rfl, by decide +kernel, rfl, by decide +kernel, by decide +kernel⟩
theorem ch_kinds_of : chSs ⟨["kinds", "found", "word", "is_open"], defScope s_kinds_of, fun _ => true⟩ f_kinds_of (defBody s_kinds_of) = true := by decide +kernel
theorem sc_column_rows_of : FnScope ["columns", "kinds", "found", "word", "home", "goal", "rule", "kind", "row"] ["columns", "kinds"] (defScope s_column_rows_of) := ⟨rfl, rfl, rfl, by decide +kernel, rfl, by decide +kernel, by decide +kernel⟩
theorem ch_column_rows_of : chSs ⟨["columns", "kinds", "found", "word", "home", "goal", "rule", "kind", "row"], defScope s_column_rows_of, fun _ => true⟩ f_column_rows_of (defBody s_column_rows_of) = true := by decide +kernel
theorem sc_menu_of : FnScope ["kinds", "columns", "found", "word", "sort"] ["kinds", "columns"] (defScope s_menu_of) := ⟨rfl, rfl, rfl, by decide +kernel, rfl, by decide +kernel, by decide +kernel⟩
theorem ch_menu_of : chSs ⟨["kinds", "columns", "found", "word", "sort"], defScope s_menu_of, fun _ => true⟩ f_menu_of (defBody s_menu_of) = true := by decide +kernel
theorem sc_checks_of : FnScope ["checks", "menu", "check"] ["checks", "menu"] (defScope s_checks_of) := ⟨rfl, rfl, rfl, by decide +kernel, rfl, by decide +kernel, by decide +kernel⟩
theorem ch_checks_of : chSs ⟨["checks", "menu", "check"], defScope s_checks_of, fun _ => true⟩ f_checks_of (defBody s_checks_of) = true := by decide +kernel
theorem sc_Book_markable : FnScope ["self", "found", "more", "falling", "below", "kind", "column"] ["self"] (defScope s_Book_markable) := ⟨rfl, rfl, rfl, by decide +kernel, rfl, by decide +kernel, by decide +kernel⟩
theorem ch_Book_markable : chSs ⟨["self", "found", "more", "falling", "below", "kind", "column"], defScope s_Book_markable, fun _ => true⟩ f_Book_markable (defBody s_Book_markable) = true := by decide +kernel
theorem sc_Book_contains : FnScope ["self", "check"] ["self", "check"] (defScope s_Book_contains) := ⟨rfl, rfl, rfl, by decide +kernel, rfl, by decide +kernel, by decide +kernel⟩
theorem ch_Book_contains : chSs ⟨["self", "check"], defScope s_Book_contains, fun _ => true⟩ f_Book_contains (defBody s_Book_contains) = true := by decide +kernel
theorem sc_check_fresh : FnScope ["word", "known"] ["word", "known"] (defScope s_check_fresh) := ⟨rfl, rfl, rfl, by decide +kernel, rfl, by decide +kernel, by decide +kernel⟩
theorem ch_check_fresh : chSs ⟨["word", "known"], defScope s_check_fresh, fun _ => true⟩ f_check_fresh (defBody s_check_fresh) = true := by decide +kernel
theorem sc_Column_init : FnScope ["self", "word", "home", "goal", "rule"] ["self", "word", "home", "goal", "rule"] (defScope s_Column_init) := ⟨rfl, rfl, rfl, by decide +kernel, rfl, by decide +kernel, by decide +kernel⟩
theorem ch_Column_init : chSs ⟨["self", "word", "home", "goal", "rule"], defScope s_Column_init, fun _ => true⟩ f_Column_init (defBody s_Column_init) = true := by decide +kernel
theorem sc_is_name : FnScope ["thing", "letter"] ["thing"] (defScope s_is_name) := ⟨rfl, rfl, rfl, by decide +kernel, rfl, by decide +kernel, by decide +kernel⟩
theorem ch_is_name : chSs ⟨["thing", "letter"], defScope s_is_name, fun _ => true⟩ f_is_name (defBody s_is_name) = true := by decide +kernel
section
variable {K : PySem.W.Frag} {h : Heap} {mg : Str → Option Value}
theorem at_law (c : He.SaysD faL fnL K) : FnAt K (He.fAd K ("law", none)) 9 1 [] f_law := by
  obtain ⟨fd, F⟩ := c.def_ 0 (d := d_law) rfl
  exact ⟨_, _, _, _, _, _, _, fd, ["_law_script", "_law_stream", "_law_turn", "_law_b", "_law_k", "_law_book", "_law_due", "_law_paper", "_law_given"], ["_law_script"], [], F, sc_law, rfl, rfl, fun _ => by simp [RepPs], fun j _ => ⟨[], by rw [List.drop_nil]; exact .nil, F.bindsN fun _ _ _ _ _ _ us hl => match us, hl with | [_], _ => rfl⟩, ch_law⟩
theorem at__law_bared (c : He.SaysD faL fnL K) : FnAt K (He.fAd K ("_law_bared", none)) 4 2 [] f__law_bared := by
  obtain ⟨fd, F⟩ := c.def_ 1 (d := d__law_bared) rfl
  exact ⟨_, _, _, _, _, _, _, fd, ["_law_stream", "_law_b", "_law_kind", "_law_is_open"], ["_law_stream", "_law_b"], [], F, sc__law_bared, rfl, rfl, fun _ => by simp [RepPs], fun j _ => ⟨[], by rw [List.drop_nil]; exact .nil, F.bindsN fun _ _ _ _ _ _ us hl => match us, hl with | [_, _], _ => rfl⟩, ch__law_bared⟩
theorem at__law_rules (c : He.SaysD faL fnL K) : FnAt K (He.fAd K ("_law_rules", none)) 3 3 [] f__law_rules := by
  obtain ⟨fd, F⟩ := c.def_ 2 (d := d__law_rules) rfl
  exact ⟨_, _, _, _, _, _, _, fd, ["_law_stream", "_law_many", "_law_most"], ["_law_stream", "_law_many", "_law_most"], [], F, sc__law_rules, rfl, rfl, fun _ => by simp [RepPs], fun j _ => ⟨[], by rw [List.drop_nil]; exact .nil, F.bindsN fun _ _ _ _ _ _ us hl => match us, hl with | [_, _, _], _ => rfl⟩, ch__law_rules⟩
theorem at__law_made (c : He.SaysD faL fnL K) : FnAt K (He.fAd K ("_law_made", none)) 1 1 [] f__law_made := by
  obtain ⟨fd, F⟩ := c.def_ 3 (d := d__law_made) rfl
  exact ⟨_, _, _, _, _, _, _, fd, ["_law_b"], ["_law_b"], [], F, sc__law_made, rfl, rfl, fun _ => by simp [RepPs], fun j _ => ⟨[], by rw [List.drop_nil]; exact .nil, F.bindsN fun _ _ _ _ _ _ us hl => match us, hl with | [_], _ => rfl⟩, ch__law_made⟩
theorem at__law_ranks (c : He.SaysD faL fnL K) : FnAt K (He.fAd K ("_law_ranks", none)) 9 1 [] f__law_ranks := by
  obtain ⟨fd, F⟩ := c.def_ 4 (d := d__law_ranks) rfl
  exact ⟨_, _, _, _, _, _, _, fd, ["_law_b", "_law_left", "_law_ties_here", "_law_found", "_law_free", "_law_kind", "_law_home", "_law_goal", "_law_tie"], ["_law_b"], [], F, sc__law_ranks, rfl, rfl, fun _ => by simp [RepPs], fun j _ => ⟨[], by rw [List.drop_nil]; exact .nil, F.bindsN fun _ _ _ _ _ _ us hl => match us, hl with | [_], _ => rfl⟩, ch__law_ranks⟩
theorem at__law_pairs (c : He.SaysD faL fnL K) : FnAt K (He.fAd K ("_law_pairs", none)) 9 2 [] f__law_pairs := by
  obtain ⟨fd, F⟩ := c.def_ 5 (d := d__law_pairs) rfl
  exact ⟨_, _, _, _, _, _, _, fd, ["_law_stream", "_law_b", "_law_told", "_law_found", "_law_kind", "_law_is_open", "_law_way", "_law_number", "_law_pair"], ["_law_stream", "_law_b"], [], F, sc__law_pairs, rfl, rfl, fun _ => by simp [RepPs], fun j _ => ⟨[], by rw [List.drop_nil]; exact .nil, F.bindsN fun _ _ _ _ _ _ us hl => match us, hl with | [_, _], _ => rfl⟩, ch__law_pairs⟩
theorem at__law_same (c : He.SaysD faL fnL K) : FnAt K (He.fAd K ("_law_same", none)) 2 2 [] f__law_same := by
  obtain ⟨fd, F⟩ := c.def_ 6 (d := d__law_same) rfl
  exact ⟨_, _, _, _, _, _, _, fd, ["_law_found", "_law_due"], ["_law_found", "_law_due"], [], F, sc__law_same, rfl, rfl, fun _ => by simp [RepPs], fun j _ => ⟨[], by rw [List.drop_nil]; exact .nil, F.bindsN fun _ _ _ _ _ _ us hl => match us, hl with | [_, _], _ => rfl⟩, ch__law_same⟩
theorem at_is_paper (c : He.SaysD faL fnL K) : FnAt K (He.fAd K ("is_paper", none)) 9 3 [] f_is_paper := by
  obtain ⟨fd, F⟩ := c.def_ 7 (d := d_is_paper) rfl
  exact ⟨_, _, _, _, _, _, _, fd, ["book", "question", "paper", "states", "state", "watch", "word", "behind", "wrong"], ["book", "question", "paper"], [], F, sc_is_paper, rfl, rfl, fun _ => by simp [RepPs], fun j _ => ⟨[], by rw [List.drop_nil]; exact .nil, F.bindsN fun _ _ _ _ _ _ us hl => match us, hl with | [_, _, _], _ => rfl⟩, ch_is_paper⟩
theorem at__law_draw (c : He.SaysD faL fnL K) : FnAt K (He.fAd K ("_law_draw", none)) 4 2 [] f__law_draw := by
  obtain ⟨fd, F⟩ := c.def_ 8 (d := d__law_draw) rfl
  exact ⟨_, _, _, _, _, _, _, fd, ["_law_stream", "_law_many", "_law_mixed_here", "_law_digit"], ["_law_stream", "_law_many"], [], F, sc__law_draw, rfl, rfl, fun _ => by simp [RepPs], fun j _ => ⟨[], by rw [List.drop_nil]; exact .nil, F.bindsN fun _ _ _ _ _ _ us hl => match us, hl with | [_, _], _ => rfl⟩, ch__law_draw⟩
theorem at__law_falls (c : He.SaysD faL fnL K) : FnAt K (He.fAd K ("_law_falls", none)) 8 2 [] f__law_falls := by
  obtain ⟨fd, F⟩ := c.def_ 9 (d := d__law_falls) rfl
  exact ⟨_, _, _, _, _, _, _, fd, ["_law_b", "_law_paper", "_law_kinds", "_law_found", "_law_kind", "_law_number", "_law_pair", "_law_tie"], ["_law_b", "_law_paper"], [], F, sc__law_falls, rfl, rfl, fun _ => by simp [RepPs], fun j _ => ⟨[], by rw [List.drop_nil]; exact .nil, F.bindsN fun _ _ _ _ _ _ us hl => match us, hl with | [_, _], _ => rfl⟩, ch__law_falls⟩
theorem at__law_with (c : He.SaysD faL fnL K) : FnAt K (He.fAd K ("_law_with", none)) 2 2 [] f__law_with := by
  obtain ⟨fd, F⟩ := c.def_ 10 (d := d__law_with) rfl
  exact ⟨_, _, _, _, _, _, _, fd, ["_law_b", "_law_check"], ["_law_b", "_law_check"], [], F, sc__law_with, rfl, rfl, fun _ => by simp [RepPs], fun j _ => ⟨[], by rw [List.drop_nil]; exact .nil, F.bindsN fun _ _ _ _ _ _ us hl => match us, hl with | [_, _], _ => rfl⟩, ch__law_with⟩
theorem at__law_checks (c : He.SaysD faL fnL K) : FnAt K (He.fAd K ("_law_checks", none)) 3 3 [] f__law_checks := by
  obtain ⟨fd, F⟩ := c.def_ 11 (d := d__law_checks) rfl
  exact ⟨_, _, _, _, _, _, _, fd, ["_law_b", "_law_word", "_law_name"], ["_law_b", "_law_word", "_law_name"], [], F, sc__law_checks, rfl, rfl, fun _ => by simp [RepPs], fun j _ => ⟨[], by rw [List.drop_nil]; exact .nil, F.bindsN fun _ _ _ _ _ _ us hl => match us, hl with | [_, _, _], _ => rfl⟩, ch__law_checks⟩
theorem at__law_checked (c : He.SaysD faL fnL K) : FnAt K (He.fAd K ("_law_checked", none)) 5 2 [] f__law_checked := by
  obtain ⟨fd, F⟩ := c.def_ 12 (d := d__law_checked) rfl
  exact ⟨_, _, _, _, _, _, _, fd, ["_law_stream", "_law_b", "_law_share", "_law_checks_here", "_law_check"], ["_law_stream", "_law_b"], [], F, sc__law_checked, rfl, rfl, fun _ => by simp [RepPs], fun j _ => ⟨[], by rw [List.drop_nil]; exact .nil, F.bindsN fun _ _ _ _ _ _ us hl => match us, hl with | [_, _], _ => rfl⟩, ch__law_checked⟩
theorem at__law_shape (c : He.SaysD faL fnL K) : FnAt K (He.fAd K ("_law_shape", none)) 9 3 [] f__law_shape := by
  obtain ⟨fd, F⟩ := c.def_ 13 (d := d__law_shape) rfl
  exact ⟨_, _, _, _, _, _, _, fd, ["_law_stream", "_law_many", "_law_most", "_law_name", "_law_kinds", "_law_words", "_law_columns", "_law_home", "_law_goal"], ["_law_stream", "_law_many", "_law_most"], [], F, sc__law_shape, rfl, rfl, fun _ => by simp [RepPs], fun j _ => ⟨[], by rw [List.drop_nil]; exact .nil, F.bindsN fun _ _ _ _ _ _ us hl => match us, hl with | [_, _, _], _ => rfl⟩, ch__law_shape⟩
theorem at__law_tight (c : He.SaysD faL fnL K) : FnAt K (He.fAd K ("_law_tight", none)) 2 1 [] f__law_tight := by
  obtain ⟨fd, F⟩ := c.def_ 14 (d := d__law_tight) rfl
  exact ⟨_, _, _, _, _, _, _, fd, ["_law_b", "_law_kind"], ["_law_b"], [], F, sc__law_tight, rfl, rfl, fun _ => by simp [RepPs], fun j _ => ⟨[], by rw [List.drop_nil]; exact .nil, F.bindsN fun _ _ _ _ _ _ us hl => match us, hl with | [_], _ => rfl⟩, ch__law_tight⟩
theorem at__law_ties (c : He.SaysD faL fnL K) : FnAt K (He.fAd K ("_law_ties", none)) 3 1 [] f__law_ties := by
  obtain ⟨fd, F⟩ := c.def_ 15 (d := d__law_ties) rfl
  exact ⟨_, _, _, _, _, _, _, fd, ["_law_b", "_law_kinds", "_law_column"], ["_law_b"], [], F, sc__law_ties, rfl, rfl, fun _ => by simp [RepPs], fun j _ => ⟨[], by rw [List.drop_nil]; exact .nil, F.bindsN fun _ _ _ _ _ _ us hl => match us, hl with | [_], _ => rfl⟩, ch__law_ties⟩
theorem at__law_mixed (c : He.SaysD faL fnL K) : FnAt K (He.fAd K ("_law_mixed", none)) 4 2 [] f__law_mixed := by
  obtain ⟨fd, F⟩ := c.def_ 16 (d := d__law_mixed) rfl
  exact ⟨_, _, _, _, _, _, _, fd, ["_law_stream", "_law_things", "_law_left", "_law_k"], ["_law_stream", "_law_things"], [], F, sc__law_mixed, rfl, rfl, fun _ => by simp [RepPs], fun j _ => ⟨[], by rw [List.drop_nil]; exact .nil, F.bindsN fun _ _ _ _ _ _ us hl => match us, hl with | [_, _], _ => rfl⟩, ch__law_mixed⟩
theorem at__law_pick (c : He.SaysD faL fnL K) : FnAt K (He.fAd K ("_law_pick", none)) 2 2 [] f__law_pick := by
  obtain ⟨fd, F⟩ := c.def_ 17 (d := d__law_pick) rfl
  exact ⟨_, _, _, _, _, _, _, fd, ["_law_stream", "_law_things"], ["_law_stream", "_law_things"], [], F, sc__law_pick, rfl, rfl, fun _ => by simp [RepPs], fun j _ => ⟨[], by rw [List.drop_nil]; exact .nil, F.bindsN fun _ _ _ _ _ _ us hl => match us, hl with | [_, _], _ => rfl⟩, ch__law_pick⟩
theorem at_checked_question (c : He.SaysD faL fnL K) : FnAt K (He.fAd K ("checked_question", none)) 2 2 [] f_checked_question := by
  obtain ⟨fd, F⟩ := c.def_ 18 (d := d_checked_question) rfl
  exact ⟨_, _, _, _, _, _, _, fd, ["book", "question"], ["book", "question"], [], F, sc_checked_question, rfl, rfl, fun _ => by simp [RepPs], fun j _ => ⟨[], by rw [List.drop_nil]; exact .nil, F.bindsN fun _ _ _ _ _ _ us hl => match us, hl with | [_, _], _ => rfl⟩, ch_checked_question⟩
theorem at_is_rank_paper (c : He.SaysD faL fnL K) : FnAt K (He.fAd K ("is_rank_paper", none)) 7 2 [] f_is_rank_paper := by
  obtain ⟨fd, F⟩ := c.def_ 19 (d := d_is_rank_paper) rfl
  exact ⟨_, _, _, _, _, _, _, fd, ["book", "paper", "found", "kind", "number", "column", "pair"], ["book", "paper"], [], F, sc_is_rank_paper, rfl, rfl, fun _ => by simp [RepPs], fun j _ => ⟨[], by rw [List.drop_nil]; exact .nil, F.bindsN fun _ _ _ _ _ _ us hl => match us, hl with | [_, _], _ => rfl⟩, ch_is_rank_paper⟩
theorem at_is_row_of (c : He.SaysD faL fnL K) : FnAt K (He.fAd K ("is_row_of", none)) 1 1 [] f_is_row_of := by
  obtain ⟨fd, F⟩ := c.def_ 20 (d := d_is_row_of) rfl
  exact ⟨_, _, _, _, _, _, _, fd, ["thing"], ["thing"], [], F, sc_is_row_of, rfl, rfl, fun _ => by simp [RepPs], fun j _ => ⟨[], by rw [List.drop_nil]; exact .nil, F.bindsN fun _ _ _ _ _ _ us hl => match us, hl with | [_], _ => rfl⟩, ch_is_row_of⟩
theorem at__law_all_checks (c : He.SaysD faL fnL K) : FnAt K (He.fAd K ("_law_all_checks", none)) 5 1 [] f__law_all_checks := by
  obtain ⟨fd, F⟩ := c.def_ 21 (d := d__law_all_checks) rfl
  exact ⟨_, _, _, _, _, _, _, fd, ["_law_b", "_law_found", "_law_column", "_law_kind", "_law_word"], ["_law_b"], [], F, sc__law_all_checks, rfl, rfl, fun _ => by simp [RepPs], fun j _ => ⟨[], by rw [List.drop_nil]; exact .nil, F.bindsN fun _ _ _ _ _ _ us hl => match us, hl with | [_], _ => rfl⟩, ch__law_all_checks⟩
theorem at__law_names (c : He.SaysD faL fnL K) : FnAt K (He.fAd K ("_law_names", none)) 4 2 [] f__law_names := by
  obtain ⟨fd, F⟩ := c.def_ 22 (d := d__law_names) rfl
  exact ⟨_, _, _, _, _, _, _, fd, ["_law_stream", "_law_many", "_law_found", "_law_k"], ["_law_stream", "_law_many"], [], F, sc__law_names, rfl, rfl, fun _ => by simp [RepPs], fun j _ => ⟨[], by rw [List.drop_nil]; exact .nil, F.bindsN fun _ _ _ _ _ _ us hl => match us, hl with | [_, _], _ => rfl⟩, ch__law_names⟩
theorem at_Book_init (c : He.SaysD faL fnL K) : FnAt K (He.fAd K ("Book", some "__init__")) 5 4 [] f_Book_init := by
  obtain ⟨fd, F⟩ := c.def_ 23 (d := d_Book_init) rfl
  exact ⟨_, _, _, _, _, _, _, fd, ["self", "kinds", "columns", "checks", "row"], ["self", "kinds", "columns", "checks"], [], F, sc_Book_init, rfl, rfl, fun _ => by simp [RepPs], fun j _ => by
    obtain ⟨ds, r, b⟩ := FunD.binds1 (ps := ["self", "kinds", "columns", "checks"]) F 4 2 (List.cons_ne_nil _ _) rfl fun T kV doc pm an cdv ct us its h1 h2 => (match us, its, h1, h2 with | [_, _, _, _], [_, _], _, _ => ⟨_, rfl, rfl⟩)
    exact ⟨ds, by rw [List.drop_nil]; exact r, b⟩, ch_Book_init⟩
theorem at__law_markable (c : He.SaysD faL fnL K) : FnAt K (He.fAd K ("_law_markable", none)) 6 1 [] f__law_markable := by
  obtain ⟨fd, F⟩ := c.def_ 24 (d := d__law_markable) rfl
  exact ⟨_, _, _, _, _, _, _, fd, ["_law_b", "_law_found", "_law_turn", "_law_kind", "_law_is_open", "_law_column"], ["_law_b"], [], F, sc__law_markable, rfl, rfl, fun _ => by simp [RepPs], fun j _ => ⟨[], by rw [List.drop_nil]; exact .nil, F.bindsN fun _ _ _ _ _ _ us hl => match us, hl with | [_], _ => rfl⟩, ch__law_markable⟩
theorem at_stands_in (c : He.SaysD faL fnL K) : FnAt K (He.fAd K ("stands_in", none)) 2 2 [] f_stands_in := by
  obtain ⟨fd, F⟩ := c.def_ 25 (d := d_stands_in) rfl
  exact ⟨_, _, _, _, _, _, _, fd, ["thing", "names"], ["thing", "names"], [], F, sc_stands_in, rfl, rfl, fun _ => by simp [RepPs], fun j _ => ⟨[], by rw [List.drop_nil]; exact .nil, F.bindsN fun _ _ _ _ _ _ us hl => match us, hl with | [_, _], _ => rfl⟩, ch_stands_in⟩
theorem at_Book_questions (c : He.SaysD faL fnL K) : FnAt K (He.fAd K ("Book", some "questions")) 5 1 [] f_Book_questions := by
  obtain ⟨fd, F⟩ := c.def_ 26 (d := d_Book_questions) rfl
  exact ⟨_, _, _, _, _, _, _, fd, ["self", "found", "word", "column", "kind"], ["self"], [], F, sc_Book_questions, rfl, rfl, fun _ => by simp [RepPs], fun j _ => ⟨[], by rw [List.drop_nil]; exact .nil, F.bindsN fun _ _ _ _ _ _ us hl => match us, hl with | [_], _ => rfl⟩, ch_Book_questions⟩
theorem at_tight_columns (c : He.SaysD faL fnL K) : FnAt K (He.fAd K ("tight_columns", none)) 4 1 [] f_tight_columns := by
  obtain ⟨fd, F⟩ := c.def_ 27 (d := d_tight_columns) rfl
  exact ⟨_, _, _, _, _, _, _, fd, ["book", "kinds", "columns", "column"], ["book"], [], F, sc_tight_columns, rfl, rfl, fun _ => by simp [RepPs], fun j _ => ⟨[], by rw [List.drop_nil]; exact .nil, F.bindsN fun _ _ _ _ _ _ us hl => match us, hl with | [_], _ => rfl⟩, ch_tight_columns⟩
theorem at_is_number (c : He.SaysD faL fnL K) : FnAt K (He.fAd K ("is_number", none)) 1 1 [] f_is_number := by
  obtain ⟨fd, F⟩ := c.def_ 28 (d := d_is_number) rfl
  exact ⟨_, _, _, _, _, _, _, fd, ["thing"], ["thing"], [], F, sc_is_number, rfl, rfl, fun _ => by simp [RepPs], fun j _ => ⟨[], by rw [List.drop_nil]; exact .nil, F.bindsN fun _ _ _ _ _ _ us hl => match us, hl with | [_], _ => rfl⟩, ch_is_number⟩
theorem at_tight_kinds (c : He.SaysD faL fnL K) : FnAt K (He.fAd K ("tight_kinds", none)) 2 1 [] f_tight_kinds := by
  obtain ⟨fd, F⟩ := c.def_ 29 (d := d_tight_kinds) rfl
  exact ⟨_, _, _, _, _, _, _, fd, ["book", "kind"], ["book"], [], F, sc_tight_kinds, rfl, rfl, fun _ => by simp [RepPs], fun j _ => ⟨[], by rw [List.drop_nil]; exact .nil, F.bindsN fun _ _ _ _ _ _ us hl => match us, hl with | [_], _ => rfl⟩, ch_tight_kinds⟩
theorem at__law_fresh (c : He.SaysD faL fnL K) : FnAt K (He.fAd K ("_law_fresh", none)) 8 2 [] f__law_fresh := by
  obtain ⟨fd, F⟩ := c.def_ 30 (d := d__law_fresh) rfl
  exact ⟨_, _, _, _, _, _, _, fd, ["_law_stream", "_law_taken", "_law_words", "_law_name", "_law_letters", "_law_k", "_law_one", "_law_sign"], ["_law_stream", "_law_taken"], [], F, sc__law_fresh, rfl, rfl, fun _ => by simp [RepPs], fun j _ => ⟨[], by rw [List.drop_nil]; exact .nil, F.bindsN fun _ _ _ _ _ _ us hl => match us, hl with | [_, _], _ => rfl⟩, ch__law_fresh⟩
theorem at_kinds_of (c : He.SaysD faL fnL K) : FnAt K (He.fAd K ("kinds_of", none)) 4 1 [] f_kinds_of := by
  obtain ⟨fd, F⟩ := c.def_ 31 (d := d_kinds_of) rfl
  exact ⟨_, _, _, _, _, _, _, fd, ["kinds", "found", "word", "is_open"], ["kinds"], [], F, sc_kinds_of, rfl, rfl, fun _ => by simp [RepPs], fun j _ => ⟨[], by rw [List.drop_nil]; exact .nil, F.bindsN fun _ _ _ _ _ _ us hl => match us, hl with | [_], _ => rfl⟩, ch_kinds_of⟩
theorem at_column_rows_of (c : He.SaysD faL fnL K) : FnAt K (He.fAd K ("column_rows_of", none)) 9 2 [] f_column_rows_of := by
  obtain ⟨fd, F⟩ := c.def_ 32 (d := d_column_rows_of) rfl
  exact ⟨_, _, _, _, _, _, _, fd, ["columns", "kinds", "found", "word", "home", "goal", "rule", "kind", "row"], ["columns", "kinds"], [], F, sc_column_rows_of, rfl, rfl, fun _ => by simp [RepPs], fun j _ => ⟨[], by rw [List.drop_nil]; exact .nil, F.bindsN fun _ _ _ _ _ _ us hl => match us, hl with | [_, _], _ => rfl⟩, ch_column_rows_of⟩
theorem at_menu_of (c : He.SaysD faL fnL K) : FnAt K (He.fAd K ("menu_of", none)) 5 2 [] f_menu_of := by
  obtain ⟨fd, F⟩ := c.def_ 33 (d := d_menu_of) rfl
  exact ⟨_, _, _, _, _, _, _, fd, ["kinds", "columns", "found", "word", "sort"], ["kinds", "columns"], [], F, sc_menu_of, rfl, rfl, fun _ => by simp [RepPs], fun j _ => ⟨[], by rw [List.drop_nil]; exact .nil, F.bindsN fun _ _ _ _ _ _ us hl => match us, hl with | [_, _], _ => rfl⟩, ch_menu_of⟩
theorem at_checks_of (c : He.SaysD faL fnL K) : FnAt K (He.fAd K ("checks_of", none)) 3 2 [] f_checks_of := by
  obtain ⟨fd, F⟩ := c.def_ 34 (d := d_checks_of) rfl
  exact ⟨_, _, _, _, _, _, _, fd, ["checks", "menu", "check"], ["checks", "menu"], [], F, sc_checks_of, rfl, rfl, fun _ => by simp [RepPs], fun j _ => ⟨[], by rw [List.drop_nil]; exact .nil, F.bindsN fun _ _ _ _ _ _ us hl => match us, hl with | [_, _], _ => rfl⟩, ch_checks_of⟩
theorem at_Book_markable (c : He.SaysD faL fnL K) : FnAt K (He.fAd K ("Book", some "markable")) 7 1 [] f_Book_markable := by
  obtain ⟨fd, F⟩ := c.def_ 35 (d := d_Book_markable) rfl
  exact ⟨_, _, _, _, _, _, _, fd, ["self", "found", "more", "falling", "below", "kind", "column"], ["self"], [], F, sc_Book_markable, rfl, rfl, fun _ => by simp [RepPs], fun j _ => ⟨[], by rw [List.drop_nil]; exact .nil, F.bindsN fun _ _ _ _ _ _ us hl => match us, hl with | [_], _ => rfl⟩, ch_Book_markable⟩
theorem at_Book_contains (c : He.SaysD faL fnL K) : FnAt K (He.fAd K ("Book", some "__contains__")) 2 2 [] f_Book_contains := by
  obtain ⟨fd, F⟩ := c.def_ 36 (d := d_Book_contains) rfl
  exact ⟨_, _, _, _, _, _, _, fd, ["self", "check"], ["self", "check"], [], F, sc_Book_contains, rfl, rfl, fun _ => by simp [RepPs], fun j _ => ⟨[], by rw [List.drop_nil]; exact .nil, F.bindsN fun _ _ _ _ _ _ us hl => match us, hl with | [_, _], _ => rfl⟩, ch_Book_contains⟩
theorem at_check_fresh (c : He.SaysD faL fnL K) : FnAt K (He.fAd K ("check_fresh", none)) 2 2 [] f_check_fresh := by
  obtain ⟨fd, F⟩ := c.def_ 37 (d := d_check_fresh) rfl
  exact ⟨_, _, _, _, _, _, _, fd, ["word", "known"], ["word", "known"], [], F, sc_check_fresh, rfl, rfl, fun _ => by simp [RepPs], fun j _ => ⟨[], by rw [List.drop_nil]; exact .nil, F.bindsN fun _ _ _ _ _ _ us hl => match us, hl with | [_, _], _ => rfl⟩, ch_check_fresh⟩
theorem at_Column_init (c : He.SaysD faL fnL K) : FnAt K (He.fAd K ("Column", some "__init__")) 5 5 [] f_Column_init := by
  obtain ⟨fd, F⟩ := c.def_ 38 (d := d_Column_init) rfl
  exact ⟨_, _, _, _, _, _, _, fd, ["self", "word", "home", "goal", "rule"], ["self", "word", "home", "goal", "rule"], [], F, sc_Column_init, rfl, rfl, fun _ => by simp [RepPs], fun j _ => ⟨[], by rw [List.drop_nil]; exact .nil, F.bindsN fun _ _ _ _ _ _ us hl => match us, hl with | [_, _, _, _, _], _ => rfl⟩, ch_Column_init⟩
theorem at_is_name (c : He.SaysD faL fnL K) : FnAt K (He.fAd K ("is_name", none)) 2 1 [] f_is_name := by
  obtain ⟨fd, F⟩ := c.def_ 39 (d := d_is_name) rfl
  exact ⟨_, _, _, _, _, _, _, fd, ["thing", "letter"], ["thing"], [], F, sc_is_name, rfl, rfl, fun _ => by simp [RepPs], fun j _ => ⟨[], by rw [List.drop_nil]; exact .nil, F.bindsN fun _ _ _ _ _ _ us hl => match us, hl with | [_], _ => rfl⟩, ch_is_name⟩
theorem md (X : K.In h) (G : h.Ns mainGlobals mg) (c : He.SaysD faL fnL K) : Md K mg T gm where
  glo := by
    refine glo_all ?_
    exact (all_cons (g_str (He.str_ok X G (c.fact 68 (f := .str "CLEAR" "clear") rfl))) (all_cons (g_str (He.str_ok X G (c.fact 69 (f := .str "FALL" "fall") rfl))) (all_cons (g_str (He.str_ok X G (c.fact 70 (f := .str "LETTERS" "abcdefghijklmnopqrstuvwxyz") rfl))) (all_cons (g_str (He.str_ok X G (c.fact 71 (f := .str "STRUCK" "strike") rfl))) all_nil))))
  blt := (all_cons (He.free_ok X G (c.fact 0 (f := .free "len") rfl)) (all_cons (He.free_ok X G (c.fact 1 (f := .free "int") rfl)) (all_cons (He.free_ok X G (c.fact 2 (f := .free "str") rfl)) (all_cons (He.free_ok X G (c.fact 3 (f := .free "list") rfl)) (all_cons (He.free_ok X G (c.fact 4 (f := .free "tuple") rfl)) (all_cons (He.free_ok X G (c.fact 5 (f := .free "dict") rfl)) (all_cons (He.free_ok X G (c.fact 6 (f := .free "repr") rfl)) (all_cons (He.free_ok X G (c.fact 7 (f := .free "any") rfl)) (all_cons (He.free_ok X G (c.fact 8 (f := .free "all") rfl)) (all_cons (He.free_ok X G (c.fact 9 (f := .free "sorted") rfl)) (all_cons (He.free_ok X G (c.fact 10 (f := .free "max") rfl)) (all_cons (He.free_ok X G (c.fact 11 (f := .free "isinstance") rfl)) (all_cons (He.free_ok X G (c.fact 12 (f := .free "range") rfl)) (all_cons (He.free_ok X G (c.fact 13 (f := .free "bool") rfl)) (all_cons (He.free_ok X G (c.fact 14 (f := .free "set") rfl)) all_nil)))))))))))))))
  fld := fld_all (all_cons (a := (("Book" : Str), ("all_checks" : Str))) ⟨He.cls_ok (c.fact 29 (f := .cls "Book") rfl), He.noat_ok (c.fact 56 (f := .noat "Book" "all_checks") rfl)⟩ (all_cons (a := (("Book" : Str), ("column_rows" : Str))) ⟨He.cls_ok (c.fact 29 (f := .cls "Book") rfl), He.noat_ok (c.fact 57 (f := .noat "Book" "column_rows") rfl)⟩ (all_cons (a := (("Book" : Str), ("column_table" : Str))) ⟨He.cls_ok (c.fact 29 (f := .cls "Book") rfl), He.noat_ok (c.fact 58 (f := .noat "Book" "column_table") rfl)⟩ (all_cons (a := (("Book" : Str), ("open_kinds" : Str))) ⟨He.cls_ok (c.fact 29 (f := .cls "Book") rfl), He.noat_ok (c.fact 59 (f := .noat "Book" "open_kinds") rfl)⟩ (all_cons (a := (("Book" : Str), ("own_checks" : Str))) ⟨He.cls_ok (c.fact 29 (f := .cls "Book") rfl), He.noat_ok (c.fact 60 (f := .noat "Book" "own_checks") rfl)⟩ (all_cons (a := (("Column" : Str), ("goal" : Str))) ⟨He.cls_ok (c.fact 51 (f := .cls "Column") rfl), He.noat_ok (c.fact 61 (f := .noat "Column" "goal") rfl)⟩ (all_cons (a := (("Column" : Str), ("home" : Str))) ⟨He.cls_ok (c.fact 51 (f := .cls "Column") rfl), He.noat_ok (c.fact 62 (f := .noat "Column" "home") rfl)⟩ (all_cons (a := (("Column" : Str), ("rule" : Str))) ⟨He.cls_ok (c.fact 51 (f := .cls "Column") rfl), He.noat_ok (c.fact 63 (f := .noat "Column" "rule") rfl)⟩ (all_cons (a := (("Column" : Str), ("word" : Str))) ⟨He.cls_ok (c.fact 51 (f := .cls "Column") rfl), He.noat_ok (c.fact 64 (f := .noat "Column" "word") rfl)⟩ all_nil)))))))))
  fn := fn_all (all_cons (a := ("_law_bared" : Str)) (fn_def (He.glo_ok X G (c.fact 15 (f := .glo "_law_bared") rfl)) (c.def_ 1 (d := d__law_bared) rfl) rfl (at__law_bared c)) (all_cons (a := ("_law_rules" : Str)) (fn_def (He.glo_ok X G (c.fact 16 (f := .glo "_law_rules") rfl)) (c.def_ 2 (d := d__law_rules) rfl) rfl (at__law_rules c)) (all_cons (a := ("_law_made" : Str)) (fn_def (He.glo_ok X G (c.fact 17 (f := .glo "_law_made") rfl)) (c.def_ 3 (d := d__law_made) rfl) rfl (at__law_made c)) (all_cons (a := ("_law_ranks" : Str)) (fn_def (He.glo_ok X G (c.fact 18 (f := .glo "_law_ranks") rfl)) (c.def_ 4 (d := d__law_ranks) rfl) rfl (at__law_ranks c)) (all_cons (a := ("_law_pairs" : Str)) (fn_def (He.glo_ok X G (c.fact 19 (f := .glo "_law_pairs") rfl)) (c.def_ 5 (d := d__law_pairs) rfl) rfl (at__law_pairs c)) (all_cons (a := ("_law_same" : Str)) (fn_def (He.glo_ok X G (c.fact 20 (f := .glo "_law_same") rfl)) (c.def_ 6 (d := d__law_same) rfl) rfl (at__law_same c)) (all_cons (a := ("is_paper" : Str)) (fn_def (He.glo_ok X G (c.fact 21 (f := .glo "is_paper") rfl)) (c.def_ 7 (d := d_is_paper) rfl) rfl (at_is_paper c)) (all_cons (a := ("_law_draw" : Str)) (fn_def (He.glo_ok X G (c.fact 22 (f := .glo "_law_draw") rfl)) (c.def_ 8 (d := d__law_draw) rfl) rfl (at__law_draw c)) (all_cons (a := ("_law_falls" : Str)) (fn_def (He.glo_ok X G (c.fact 23 (f := .glo "_law_falls") rfl)) (c.def_ 9 (d := d__law_falls) rfl) rfl (at__law_falls c)) (all_cons (a := ("_law_with" : Str)) (fn_def (He.glo_ok X G (c.fact 24 (f := .glo "_law_with") rfl)) (c.def_ 10 (d := d__law_with) rfl) rfl (at__law_with c)) (all_cons (a := ("_law_checks" : Str)) (fn_def (He.glo_ok X G (c.fact 25 (f := .glo "_law_checks") rfl)) (c.def_ 11 (d := d__law_checks) rfl) rfl (at__law_checks c)) (all_cons (a := ("_law_checked" : Str)) (fn_def (He.glo_ok X G (c.fact 26 (f := .glo "_law_checked") rfl)) (c.def_ 12 (d := d__law_checked) rfl) rfl (at__law_checked c)) (all_cons (a := ("_law_shape" : Str)) (fn_def (He.glo_ok X G (c.fact 27 (f := .glo "_law_shape") rfl)) (c.def_ 13 (d := d__law_shape) rfl) rfl (at__law_shape c)) (all_cons (a := ("Book" : Str)) (fn_cls (He.glo_ok X G (c.fact 28 (f := .glo "Book") rfl)) (He.mkr_ok (c.fact 30 (f := .mkr "Book") rfl)) rfl rfl (at_Book_init c)) (all_cons (a := ("_law_tight" : Str)) (fn_def (He.glo_ok X G (c.fact 31 (f := .glo "_law_tight") rfl)) (c.def_ 14 (d := d__law_tight) rfl) rfl (at__law_tight c)) (all_cons (a := ("_law_ties" : Str)) (fn_def (He.glo_ok X G (c.fact 32 (f := .glo "_law_ties") rfl)) (c.def_ 15 (d := d__law_ties) rfl) rfl (at__law_ties c)) (all_cons (a := ("_law_mixed" : Str)) (fn_def (He.glo_ok X G (c.fact 33 (f := .glo "_law_mixed") rfl)) (c.def_ 16 (d := d__law_mixed) rfl) rfl (at__law_mixed c)) (all_cons (a := ("_law_pick" : Str)) (fn_def (He.glo_ok X G (c.fact 34 (f := .glo "_law_pick") rfl)) (c.def_ 17 (d := d__law_pick) rfl) rfl (at__law_pick c)) (all_cons (a := ("checked_question" : Str)) (fn_def (He.glo_ok X G (c.fact 35 (f := .glo "checked_question") rfl)) (c.def_ 18 (d := d_checked_question) rfl) rfl (at_checked_question c)) (all_cons (a := ("is_rank_paper" : Str)) (fn_def (He.glo_ok X G (c.fact 36 (f := .glo "is_rank_paper") rfl)) (c.def_ 19 (d := d_is_rank_paper) rfl) rfl (at_is_rank_paper c)) (all_cons (a := ("is_row_of" : Str)) (fn_def (He.glo_ok X G (c.fact 37 (f := .glo "is_row_of") rfl)) (c.def_ 20 (d := d_is_row_of) rfl) rfl (at_is_row_of c)) (all_cons (a := ("_law_all_checks" : Str)) (fn_def (He.glo_ok X G (c.fact 38 (f := .glo "_law_all_checks") rfl)) (c.def_ 21 (d := d__law_all_checks) rfl) rfl (at__law_all_checks c)) (all_cons (a := ("_law_names" : Str)) (fn_def (He.glo_ok X G (c.fact 39 (f := .glo "_law_names") rfl)) (c.def_ 22 (d := d__law_names) rfl) rfl (at__law_names c)) (all_cons (a := ("_law_markable" : Str)) (fn_def (He.glo_ok X G (c.fact 40 (f := .glo "_law_markable") rfl)) (c.def_ 24 (d := d__law_markable) rfl) rfl (at__law_markable c)) (all_cons (a := ("stands_in" : Str)) (fn_def (He.glo_ok X G (c.fact 41 (f := .glo "stands_in") rfl)) (c.def_ 25 (d := d_stands_in) rfl) rfl (at_stands_in c)) (all_cons (a := ("tight_columns" : Str)) (fn_def (He.glo_ok X G (c.fact 42 (f := .glo "tight_columns") rfl)) (c.def_ 27 (d := d_tight_columns) rfl) rfl (at_tight_columns c)) (all_cons (a := ("is_number" : Str)) (fn_def (He.glo_ok X G (c.fact 43 (f := .glo "is_number") rfl)) (c.def_ 28 (d := d_is_number) rfl) rfl (at_is_number c)) (all_cons (a := ("tight_kinds" : Str)) (fn_def (He.glo_ok X G (c.fact 44 (f := .glo "tight_kinds") rfl)) (c.def_ 29 (d := d_tight_kinds) rfl) rfl (at_tight_kinds c)) (all_cons (a := ("_law_fresh" : Str)) (fn_def (He.glo_ok X G (c.fact 45 (f := .glo "_law_fresh") rfl)) (c.def_ 30 (d := d__law_fresh) rfl) rfl (at__law_fresh c)) (all_cons (a := ("kinds_of" : Str)) (fn_def (He.glo_ok X G (c.fact 46 (f := .glo "kinds_of") rfl)) (c.def_ 31 (d := d_kinds_of) rfl) rfl (at_kinds_of c)) (all_cons (a := ("column_rows_of" : Str)) (fn_def (He.glo_ok X G (c.fact 47 (f := .glo "column_rows_of") rfl)) (c.def_ 32 (d := d_column_rows_of) rfl) rfl (at_column_rows_of c)) (all_cons (a := ("menu_of" : Str)) (fn_def (He.glo_ok X G (c.fact 48 (f := .glo "menu_of") rfl)) (c.def_ 33 (d := d_menu_of) rfl) rfl (at_menu_of c)) (all_cons (a := ("checks_of" : Str)) (fn_def (He.glo_ok X G (c.fact 49 (f := .glo "checks_of") rfl)) (c.def_ 34 (d := d_checks_of) rfl) rfl (at_checks_of c)) (all_cons (a := ("Column" : Str)) (fn_cls (He.glo_ok X G (c.fact 50 (f := .glo "Column") rfl)) (He.mkr_ok (c.fact 52 (f := .mkr "Column") rfl)) rfl rfl (at_Column_init c)) (all_cons (a := ("check_fresh" : Str)) (fn_def (He.glo_ok X G (c.fact 53 (f := .glo "check_fresh") rfl)) (c.def_ 37 (d := d_check_fresh) rfl) rfl (at_check_fresh c)) (all_cons (a := ("is_name" : Str)) (fn_def (He.glo_ok X G (c.fact 54 (f := .glo "is_name") rfl)) (c.def_ 39 (d := d_is_name) rfl) rfl (at_is_name c)) all_nil))))))))))))))))))))))))))))))))))))
  met := met_all (all_cons (a := (("Book" : Str), ("questions" : Str))) (met_def (own := false) (He.cls_ok (c.fact 29 (f := .cls "Book") rfl)) (He.meth_ok (c.fact 65 (f := .meth "Book" "questions") rfl)) (by rfl) (at_Book_questions c)) (all_cons (a := (("Book" : Str), ("markable" : Str))) (met_def (own := false) (He.cls_ok (c.fact 29 (f := .cls "Book") rfl)) (He.meth_ok (c.fact 66 (f := .meth "Book" "markable") rfl)) (by rfl) (at_Book_markable c)) (all_cons (a := (("Book" : Str), ("__contains__" : Str))) (met_def (own := false) (He.cls_ok (c.fact 29 (f := .cls "Book") rfl)) (He.meth_ok (c.fact 67 (f := .meth "Book" "__contains__") rfl)) (by rfl) (at_Book_contains c)) all_nil)))
end
open PySem.W PySem.Calls
theorem walk (hok : ∀ ns : List Int, ns.length ≤ 63 → ∃ S, callF T gm 40 "law" [.v (.scr ns)] [] = .ok (.v (.bl true), S)) : PySem.Challenge.rw_longstrike_k48_rank_papers.Holds := by
  w_on; o_law
  refine HandSHeadRun.head_any (r := PySem.W.OpenLaw.row PySem.Challenge.rw_longstrike_k48_rank_papers) (q := PySem.W.view (PySem.W.OpenLaw.row PySem.Challenge.rw_longstrike_k48_rank_papers).prog [66]) (H := hk) (ob := ob) (M := 6000) (loose := names) (d := HandSHeadRun.topDef (PySem.W.OpenLaw.row PySem.Challenge.rw_longstrike_k48_rank_papers).prog 66) (kwd := []) ob_eq
    (by kernel_rfl) (fun s => by kernel_rfl) run (by kernel_rfl) (by kernel_rfl) (by kernel_rfl) (by rfl) (by first | assumption | decide +kernel) (by decide +kernel) ⟨rfl, rfl, rfl, rfl, rfl, by decide +kernel⟩ ?hw ?hc
  case hw => w_witness2
  case hc =>
    refine walk_ofG (l := PySem.Challenge.rw_longstrike_k48_rank_papers) (n := 63) (k := 40) (T := T) (g := gm) (m := 9) (body := f_law) (own := false) rfl (by decide) (by kernel_rfl) ⟨rfl, by decide, by decide⟩ rfl ?F hok
    intro w mg fa h Y G hmg0
    obtain ⟨K, KX, c⟩ := Y
    have hmg : mg ("law" : PySem.Str) = some (.ref fa) := by
      have e : (HandSHeadRun.topDef (PySem.W.OpenLaw.row PySem.Challenge.rw_longstrike_k48_rank_papers).prog 66).name = ("law" : PySem.Str) := by kernel_rfl
      rw [← e]
      exact hmg0
    have e := hmg.symm.trans (He.glo_ok KX G (c.fact 55 (f := .glo "law") rfl))
    cases e
    exact ⟨K, KX, md KX G c, at_law c⟩
end LS

set_option Elab.async false
set_option linter.all false
set_option maxRecDepth 100000
/-! LM1: rules of the small language, one step each. -/
namespace LS
open PySem L2
theorem bok {α β : Type} (a : α) (f : α → R β) : (R.ok a).bind f = f a := rfl
def lcTurn (C : Cn) (env : Env) (own : List (Str × Nat)) (tg : Tg) (ifs elt : E) (D : Nat) (x : W) (S : Cells) : R Cells := match setTg tg x (wipeE env (own.map (·.2))) with
  | some env => (evIf C ifs env S).bind fun b => if b.1 = true then (evE C elt env b.2).bind fun z => pushC D z.1 z.2 else .ok b.2
  | none => .no
section
variable {C : Cn} {env env' : Env} {S S1 S2 S3 : Cells} {a b c l t it : E} {x y : W} {o : BO} {q : W × Cells}
theorem e_bin (ha : evE C a env S = .ok (x, S1)) (hb : evE C b env S1 = .ok (y, S2)) (ho : binOp o x y S2 = .ok q) : evE C (.bin o a b) env S = .ok q := by
  simp only [evE, ha, bok, hb, ho]
theorem e_cmp {o : CO} (ha : evE C a env S = .ok (x, S1)) (hb : evE C b env S1 = .ok (y, S2)) (ho : cmpOp o x y S2 = .ok q) : evE C (.cmp o a b) env S = .ok q := by
  simp only [evE, ha, bok, hb, ho]
theorem e_and_t (ha : testOf (evE C a env S) = .ok (true, S1)) (hb : evE C b env S1 = .ok q) : evE C (.and a b) env S = .ok q := by
  simp only [evE]
  cases h : evE C a env S with
  | ok r =>
    rw [h] at ha
    simp only [bok]
    unfold testOf at ha
    simp only [bok] at ha
    unfold andOp
    cases hv : r.1.view r.2 with
    | none => rw [hv] at ha; cases ha
    | some p =>
      rw [hv] at ha
      simp only at ha ⊢
      cases ht : truth p with
      | none => rw [ht] at ha; cases ha
      | some bb =>
        rw [ht] at ha
        cases ha
        simp only [if_pos]
        exact hb
  | ex _ _ _ => rw [h] at ha; cases ha
  | no => rw [h] at ha; cases ha
theorem e_and_f (ha : evE C a env S = .ok (.v (.bl false), S1)) : evE C (.and a b) env S = .ok (.v (.bl false), S1) := by
  simp only [evE, ha, bok, andOp, W.view, truth]
  rfl
theorem e_or_t (ha : evE C a env S = .ok (.v (.bl true), S1)) : evE C (.or a b) env S = .ok (.v (.bl true), S1) := by
  simp only [evE, ha, bok, andOp, W.view, truth]
  rfl
theorem e_or_f (ha : evE C a env S = .ok (.v (.bl false), S1)) (hb : evE C b env S1 = .ok q) : evE C (.or a b) env S = .ok q := by
  simp only [evE, ha, bok, andOp, W.view, truth]
  exact hb
theorem e_not {bb : Bool} (ha : testOf (evE C a env S) = .ok (bb, S1)) : evE C (.not a) env S = .ok (.v (.bl (!bb)), S1) := by
  simp only [evE, ha, bok]
theorem e_ite {bb : Bool} (ht : testOf (evE C t env S) = .ok (bb, S1)) (h : (if bb = true then evE C a env S1 else evE C b env S1) = .ok q) : evE C (.ite t a b) env S = .ok q := by
  simp only [evE, ht, bok]
  exact h
theorem t_bl {bb : Bool} {m : R (W × Cells)} (h : m = .ok (.v (.bl bb), S1)) : testOf m = .ok (bb, S1) := by
  rw [h]
  rfl
theorem e_call {f : Str} {ws : List W} (hl : evL C l env S = .ok (ws, S1)) (hg : C.g.fn f = true) (h : C.call f ws S1 = .ok q) : evE C (.call f l) env S = .ok q := by
  simp only [evE, hl, bok, if_pos hg, h]
theorem e_make {f : Str} {ws : List W} (hl : evL C l env S = .ok (ws, S1)) (hg : C.g.fn f = true) (h : C.call f ws S1 = .ok q) : evE C (.make f l) env S = .ok q := by
  simp only [evE, hl, bok, if_pos hg, h]
theorem e_meth {m cl : Str} {ws : List W} (ha : evE C a env S = .ok (x, S1)) (hc : clsOf m x S1 = some cl) (hg : C.g.met cl m = true) (hl : evL C l env S1 = .ok (ws, S2)) (h : C.call (cl ++ "." ++ m) (x :: ws) S2 = .ok q) : evE C (.meth a m l) env S = .ok q := by
  simp only [evE, ha, bok, hc, if_pos hg, hl, h]
theorem e_bm {m : BM} {ws : List W} (ha : evE C a env S = .ok (x, S1)) (ht : bmTy m x S1 = true) (hl : evL C l env S1 = .ok (ws, S2)) (h : bmOp m x ws S2 = .ok q) : evE C (.bm m a l) env S = .ok q := by
  simp only [evE, ha, bok, if_pos ht, hl, h]
theorem e_bf {f : BF} {ws : List W} {ps : List P} {p : P} (hl : evL C l env S = .ok (ws, S1)) (hv : viewL ws S1 = some ps) (h : bfOp f ps = some p) : evE C (.bf f l) env S = .ok (.v p, S1) := by
  simp only [evE, hl, bok, hv, h]
theorem e_sub {i : E} (ha : evE C a env S = .ok (x, S1)) (hb : evE C i env S1 = .ok (y, S2)) (ho : subOp x y S2 = .ok q) : evE C (.sub a i) env S = .ok q := by
  simp only [evE, ha, bok, hb, ho]
theorem e_slc {lo hi : E} {i j : Option Int} (ha : evE C a env S = .ok (x, S1)) (hb : evO C lo env S1 = .ok (i, S2)) (hc : evO C hi env S2 = .ok (j, S3)) (ho : slcOp x i j S3 = .ok q) : evE C (.slc a lo hi) env S = .ok q := by
  simp only [evE, ha, bok, hb, hc, ho]
theorem e_att {f : Str} (ha : evE C a env S = .ok (x, S1)) (ho : attOp C.g.fld x f S1 = .ok q) : evE C (.att a f) env S = .ok q := by
  simp only [evE, ha, bok, ho]
theorem e_tup {ws : List W} {ps : List P} (hl : evL C l env S = .ok (ws, S1)) (hz : ws.length ≤ lim) (hf : freezeL ws S1 = .ok (ps, S2)) : evE C (.tup l) env S = .ok (.v (.tup ps), S2) := by
  simp only [evE, hl, bok, if_pos hz, hf]
theorem e_lstF {ws : List W} {ps : List P} (hl : evL C l env S = .ok (ws, S1)) (hz : ws.length ≤ lim) (hf : freezeL ws S1 = .ok (ps, S2)) : evE C (.lst false l) env S = .ok (.v (.lst ps), S2) := by
  simp only [evE, hl, bok, if_pos hz, hf]
theorem e_lstT {ws : List W} (hl : evL C l env S = .ok (ws, S1)) (hz : ws.length ≤ lim) (hf : alloc (.lst ws) S1 = .ok q) : evE C (.lst true l) env S = .ok q := by
  simp only [evE, hl, bok, if_pos hz, hf]
theorem l_nil : evL C .nil env S = .ok ([], S) := by simp only [evL]
theorem l_cons {ws : List W} (ha : evE C a env S = .ok (x, S1)) (hl : evL C l env S1 = .ok (ws, S2)) : evL C (.cons a l) env S = .ok (x :: ws, S2) := by
  simp only [evL, ha, bok, hl]
theorem o_cons {i : Int} (ha : evE C a env S = .ok (.v (.int i), S1)) : evO C (.cons a l) env S = .ok (some i, S1) := by
  simp only [evO, ha, bok]
theorem ii_it {I : Iter} (ha : evE C a env S = .ok (x, S1)) (h : itemsOf x S1 = .ok I) : evI C (.it a) env S = .ok (I, S1) := by
  simp only [evI, ha, bok, h]
theorem i_rng {I : Iter} {ws : List W} (hl : evL C l env S = .ok (ws, S1)) (h : rngOf ws = .ok I) : evI C (.rng l) env S = .ok (I, S1) := by
  simp only [evI, hl, bok, h]
theorem ii_vals {kvs : List (Key × P)} (ha : evE C a env S = .ok (.v (.dct kvs), S1)) : evI C (.vals a) env S = .ok (.st (kvs.map fun z => .v z.2), S1) := by
  simp only [evI, ha, bok]
/-! statements -/
variable {u v : LS.S} {out : RS}
theorem x_nil : exS C .nil env S = .nx env S := by simp only [exS]
theorem x_cons {e : Env} (h1 : exS C u env S = .nx e S1) (h2 : exS C v e S1 = out) : exS C (.cons u v) env S = out := by
  simp only [exS, h1, h2]
theorem x_ret_cons {w : W} (h1 : exS C u env S = .ret w S1) : exS C (.cons u v) env S = .ret w S1 := by
  simp only [exS, h1]
theorem x_ite {bb : Bool} (ht : testOf (evE C t env S) = .ok (bb, S1)) (h : (if bb = true then exS C u env S1 else exS C v env S1) = out) : exS C (.ite t u v) env S = out := by
  simp only [exS, evT, ht, lift]
  exact h
theorem x_expr (h : evE C a env S = .ok (x, S1)) : exS C (.expr a) env S = .nx env S1 := by
  simp only [exS, h, lift]
theorem x_ret (h : evE C a env S = .ok (x, S1)) : exS C (.ret a) env S = .ret x S1 := by
  simp only [exS, h, lift]
theorem x_set {i : Nat} (h : evE C a env S = .ok (x, S1)) : exS C (.set i a) env S = .nx (env.set i (some x)) S1 := by
  simp only [exS, h, lift]
theorem x_par {is : List Nat} {ws : List W} {e : Env} (h : evL C l env S = .ok (ws, S1)) (hs : setMany env is ws = some e) : exS C (.par is l) env S = .nx e S1 := by
  simp only [exS, h, lift, hs]
theorem x_sub {i e : E} {z : W} (he : evE C e env S = .ok (x, S1)) (ho : evE C a env S1 = .ok (y, S2)) (hi : evE C i env S2 = .ok (z, S3)) {S4 : Cells} (h : setSub y z x S3 = .ok S4) : exS C (.sub a i e) env S = .nx env S4 := by
  simp only [exS, he, lift, ho, hi, h]
theorem x_fld {e : E} {f : Str} (he : evE C e env S = .ok (x, S1)) (ho : evE C a env S1 = .ok (y, S2)) (h : setFld C.g.fld y f x S2 = .ok S3) : exS C (.fld a f e) env S = .nx env S3 := by
  simp only [exS, he, lift, ho, h]
theorem x_for {tg : Tg} {xs : List W} (hi : evI C it env S = .ok (.st xs, S1)) (h : forL (exS C u) tg xs env S1 = out) : exS C (.for_ tg it u) env S = out := by
  simp only [exS, hi, lift, h]
theorem x_forC {tg : Tg} {n : Nat} (hi : evI C it env S = .ok (.cl n, S1)) (h : forC (exS C u) tg n C.g.fu 0 env S1 = out) : exS C (.for_ tg it u) env S = out := by
  simp only [exS, hi, lift, h]
/-- a for loop that keeps an invariant -/
theorem forL_inv {body : Env → Cells → RS} {tg : Tg} (I : List W → Env → Cells → Prop) (step : ∀ x xs env S, I (x :: xs) env S → ∃ e0 e s, setTg tg x env = some e0 ∧ (body e0 S = .nx e s ∨ body e0 S = .ct e s) ∧ I xs e s) :
    ∀ xs env S, I xs env S → ∃ e s, forL body tg xs env S = .nx e s ∧ I [] e s
  | [], env, S, h => ⟨env, S, rfl, h⟩
  | x :: xs, env, S, h => by
    obtain ⟨e0, e, s, h1, h2, h3⟩ := step x xs env S h
    obtain ⟨e', s', h4, h5⟩ := forL_inv I step xs e s h3
    refine ⟨e', s', ?_, h5⟩
    unfold forL
    rw [h1]
    rcases h2 with h2 | h2 <;> (simp only [h2]; exact h4)
theorem loopL_inv {turn : W → Cells → R Cells} (I : List W → Cells → Prop) (step : ∀ x xs S, I (x :: xs) S → ∃ s, turn x S = .ok s ∧ I xs s) : ∀ xs S, I xs S → ∃ s, loopL turn xs S = .ok s ∧ I [] s
  | [], S, h => ⟨S, rfl, h⟩
  | x :: xs, S, h => by
    obtain ⟨s, h1, h2⟩ := step x xs S h
    obtain ⟨s', h3, h4⟩ := loopL_inv I step xs s h2
    refine ⟨s', ?_, h4⟩
    unfold loopL
    rw [h1]
    exact h3
/-- a list comprehension over a fixed sequence: each turn adds one thing, or none -/
theorem e_lc {own : List (Str × Nat)} {tg : Tg} {ifs elt : E} {xs : List W} {cell : Bool} {q : W × Cells} (hi : evI C it env S = .ok (.st xs, S1))
    (h : loopL (lcTurn C env own tg ifs elt S1.length) xs (S1 ++ [.lst []]) = .ok S2) (hf : finC cell S1.length S2 = .ok q) : evE C (.lc cell own tg it ifs elt) env S = .ok q := by
  simp only [evE, hi, bok, loopI]
  show (loopL (lcTurn C env own tg ifs elt S1.length) xs (S1 ++ [.lst []])).bind _ = _
  rw [h]
  exact hf
end
/-! equality of plain things -/
theorem shaped_int (i : Int) : SeqAt.shaped (.int i) = true := by
  simp [SeqAt.shaped, PyData.canLay0, PyData.depth]
theorem eqP_int (i j : Int) : eqP (.int i) (.int j) = some (i == j) := by
  simp [eqP, P.py, shaped_int, PyData.eqv]
theorem eqS_int (i j : Int) : eqS (.int i) (.int j) = some (i == j) := by
  simp only [eqS]
  congr 1
theorem eqS_lst (xs ys : List P) : eqS (.lst xs) (.lst ys) = eqP (.lst xs) (.lst ys) := rfl
theorem pyAll_ints : ∀ xs : List Int, pyAll (xs.map P.int) = some (xs.map PyData.int)
  | [] => rfl
  | x :: xs => by simp [pyAll, P.py, pyAll_ints xs]
theorem lay_ints : ∀ xs : List Int, PyData.canLayAll0 (xs.map PyData.int) = true ∧ PyData.depthAll (xs.map PyData.int) = 0
  | [] => ⟨rfl, rfl⟩
  | x :: xs => by simp [PyData.canLayAll0, PyData.canLay0, PyData.depthAll, PyData.depth, lay_ints xs]
theorem eqP_nil (xs : List Int) : eqP (.lst (xs.map P.int)) (.lst []) = some xs.isEmpty := by
  simp only [eqP, P.py, pyAll_ints, pyAll, Option.map_some]
  have h := lay_ints xs
  have : (SeqAt.shaped (PyData.list (xs.map PyData.int)) && SeqAt.shaped (PyData.list [])) = true := by
    simp [SeqAt.shaped, PyData.canLay0, PyData.depth, h.1, h.2, PyData.canLayAll0, PyData.depthAll]
  rw [if_pos this]
  cases xs <;> rfl
theorem allP_ints : ∀ xs : List Int, allP (xs.map fun i => W.v (.int i)) = some (xs.map P.int)
  | [] => rfl
  | x :: xs => by simp [allP, allP_ints xs]
end LS

set_option Elab.async false
set_option linter.all false
namespace LS
open PySem L2
/-- a call by what its body comes to -/
theorem call_ret {T : Str → Option Fn} {g : Gm} {d : Nat} {f : Str} {n np : Nat} {dfl : List P} {body : LS.S} {own : Bool} {args as : List W} {S S1 : Cells} {w : W} (hT : T f = some (.fn n np dfl body own)) (ha : fillA np dfl args = some as)
    (h : exS ⟨callF T g d, g⟩ body (startE n as) S = .ret w S1) : callF T g (d + 1) f args S = fnEnd own S.length w S1 := by
  rw [callF, hT]
  simp only [ha, h]
theorem call_nx {T : Str → Option Fn} {g : Gm} {d : Nat} {f : Str} {n np : Nat} {dfl : List P} {body : LS.S} {own : Bool} {args as : List W} {S S1 : Cells} {e : Env} (hT : T f = some (.fn n np dfl body own)) (ha : fillA np dfl args = some as)
    (h : exS ⟨callF T g d, g⟩ body (startE n as) S = .nx e S1) : callF T g (d + 1) f args S = fnEnd own S.length (.v .non) S1 := by
  rw [callF, hT]
  simp only [ha, h]
theorem call_cls {T : Str → Option Fn} {g : Gm} {d : Nat} {f init : Str} {args : List W} {S S1 : Cells} (hT : T f = some (.cls init)) (h : callF T g d init (.c S.length :: args) (S ++ [.ins f []]) = .ok (.v .non, S1)) : callF T g (d + 1) f args S = finC false S.length S1 := by
  rw [callF, hT]
  simp only [h]
theorem end_v {own : Bool} {k : Nat} {p : P} {S : Cells} : fnEnd own k (.v p) S = .ok (.v p, S.take k) := rfl
end LS

set_option Elab.async false
set_option linter.all false
set_option maxRecDepth 100000
set_option maxHeartbeats 2000000
/-! LM2: the laws' draws. -/
namespace LS
open PySem L2
structure Sm where
  xs : List Int
  a : Int
  n : Int
  t : Int
def Sm.ok (s : Sm) (B : Int) : Prop := 0 ≤ s.a ∧ 0 ≤ s.n ∧ s.n ≤ B ∧ 0 ≤ s.t ∧ s.t < 2147483647
def Sm.cells (s : Sm) (rest : Cells) : Cells := .lst (s.xs.map fun i => .v (.int i)) :: .lst [.c 0, .v (.int s.a), .v (.int s.n), .v (.int s.t)] :: rest
theorem ints_low (xs : List Int) (k : Nat) : (List.map (fun i => W.v (P.int i)) xs).all (refBelow k) = true := by
  rw [List.all_eq_true]
  intro y hy
  obtain ⟨i, _, rfl⟩ := List.mem_map.mp hy
  rfl
theorem ixN_zero (n : Nat) : ixN (n + 1) 0 = some 0 := by
  simp [ixN]
theorem pop_first (x : Int) (xs : List Int) (a n t : Int) (rest : Cells) : bmOp .pop0 (.c 0) [.v (.int 0)] (Sm.cells ⟨x :: xs, a, n, t⟩ rest) = .ok (.v (.int x), Sm.cells ⟨xs, a, n, t⟩ rest) := by
  have hw : write 0 (Cell.lst ((W.v (P.int x) :: List.map (fun i => W.v (P.int i)) xs).eraseIdx 0)) (Sm.cells ⟨x :: xs, a, n, t⟩ rest) = .ok (Sm.cells ⟨xs, a, n, t⟩ rest) := by
    unfold write
    rw [if_pos]
    · rfl
    · exact ints_low xs 0
  simp only [bmOp]
  unfold popOp
  have e1 : (Sm.cells ⟨x :: xs, a, n, t⟩ rest)[0]? = some (.lst (W.v (P.int x) :: List.map (fun i => W.v (P.int i)) xs)) := rfl
  simp only [e1, List.length_cons, ixN_zero, List.getElem?_cons_zero]
  rw [hw]
  rfl
section
variable {C : Cn} {rest : Cells} {m : Int}
theorem dr_test (s : Sm) (env : Env) (h : env[0]? = some (some (.c 1))) :
    testOf (evE C (.and (.cmp .eq (.sub (.var 0) (.lit (.int 1))) (.lit (.int 0))) (.cmp .ne (.sub (.var 0) (.lit (.int 0))) (.lst false .nil))) env (s.cells rest)) = .ok ((s.a == 0) && !s.xs.isEmpty, s.cells rest) := by
  have ev : evE C (.var 0) env (s.cells rest) = .ok (.c 1, s.cells rest) := by simp only [evE, h]
  have e1 : evE C (.cmp .eq (.sub (.var 0) (.lit (.int 1))) (.lit (.int 0))) env (s.cells rest) = .ok (.v (.bl (s.a == 0)), s.cells rest) :=
    e_cmp (e_sub ev rfl rfl) rfl (by simp only [cmpOp, W.view, cmpP, eqS_int, ok1])
  cases ha : (s.a == 0) with
  | false =>
    rw [ha] at e1
    exact t_bl (e_and_f e1)
  | true =>
    rw [ha] at e1
    refine t_bl (e_and_t (t_bl e1) (e_cmp (e_sub ev rfl rfl) rfl ?_))
    unfold cmpOp
    have e : W.view (s.cells rest) (.c 0) = some (.lst (s.xs.map P.int)) := by
      simp [W.view, Sm.cells, Cell.view, allP_ints]
    rw [e]
    simp only [W.view, cmpP, eqS_lst, eqP_nil, ok1, Option.map_some]
    rfl
abbrev drE (m : Int) : Env := [some (.c 1), some (.v (.int m)), none, none]
/-- int(t * 31 + x + 7) % p: no overflow -/
theorem draw_ok {T : Str → Option Fn} {g : Gm} (hT : T "_law_draw" = some (.fn 4 2 [] f__law_draw false)) (d : Nat) {s : Sm} {B : Int} (hs : s.ok B) (hB : B < 1000000) (hm : 0 < m) (hm2 : m < 1073741824) :
    ∃ (s' : Sm) (r : Int), callF T g (d + 1) "_law_draw" [.c 1, .v (.int m)] (s.cells rest) = .ok (.v (.int r), s'.cells rest) ∧ s'.ok (B + 1) ∧ 0 ≤ r ∧ r < m := by
  obtain ⟨ha, hn, hnB, ht, ht2⟩ := hs
  -- the first two statements
  have two : ∃ s2 : Sm, (∀ out, exS ⟨callF T g d, g⟩ (.cons (.ite (.cmp .gt (.sub (.var 0) (.lit (.int 1))) (.lit (.int 0))) (.cons (.set 3 (.bin .mod (.bf .int (.cons (.sub (.var 0) (.lit (.int 1))) .nil)) (.var 1)))
  (.cons (.sub (.var 0) (.lit (.int 1)) (.bin .fdiv (.sub (.var 0) (.lit (.int 1))) (.var 1)))
  (.cons (.ret (.var 3))
  .nil))) .nil)
  (.cons (.set 2 (.bin .mod (.bin .pow (.bin .add (.bin .add (.sub (.var 0) (.lit (.int 3))) (.bin .mul (.lit (.int 104729)) (.sub (.var 0) (.lit (.int 2))))) (.lit (.int 17))) (.lit (.int 5))) (.lit (.int 2147483629))))
  (.cons (.ret (.bin .mod (.bin .mod (.bin .pow (.bin .add (.bin .add (.bin .mul (.var 2) (.lit (.int 48271))) (.bin .mul (.bin .mul (.lit (.int 40503)) (.sub (.var 0) (.lit (.int 2)))) (.sub (.var 0) (.lit (.int 2))))) (.lit (.int 13))) (.lit (.int 3))) (.lit (.int 1000000007))) (.var 1)))
  .nil))) (drE m) (s2.cells rest) = out → exS ⟨callF T g d, g⟩ f__law_draw (drE m) (s.cells rest) = out) ∧ s2.n = s.n + 1 ∧ 0 ≤ s2.a ∧ 0 ≤ s2.t ∧ s2.t < 2147483647 := by
    by_cases hc : ((s.a == 0) && !s.xs.isEmpty) = true
    · obtain ⟨xs, a, n, t⟩ := s
      cases xs with
      | nil => simp at hc
      | cons x xs =>
        have hp : ∀ (C : Cn), exS C (.sub (.var 0) (.lit (.int 1)) (.bm .pop0 (.sub (.var 0) (.lit (.int 0))) (.cons (.lit (.int 0)) .nil))) (drE m) (Sm.cells ⟨x :: xs, a, n + 1, t⟩ rest) = .nx (drE m) (Sm.cells ⟨xs, x, n + 1, t⟩ rest) := fun C =>
          x_sub (e_bm (e_sub rfl rfl rfl) rfl rfl (pop_first x xs a (n + 1) t rest)) rfl rfl rfl
        by_cases h18 : x < 1000000000000000000
        · refine ⟨⟨xs, 0, n + 1, (t * 31 + x + 7) % 2147483647⟩, fun out ho => ?_, rfl, Int.le_refl _, Int.emod_nonneg _ (by decide), Int.emod_lt_of_pos _ (by decide)⟩
          refine x_cons (S1 := Sm.cells ⟨x :: xs, a, n + 1, t⟩ rest) rfl (x_cons (x_ite (dr_test _ _ rfl) ?_) ho)
          rw [if_pos hc]
          refine x_cons (hp _) (x_cons (x_ite (bb := decide (x < 1000000000000000000)) rfl ?_) x_nil)
          rw [if_pos (decide_eq_true h18)]
          have hmul : binOp .mul (.v (.int t)) (.v (.int 31)) (Sm.cells ⟨xs, x, n + 1, t⟩ rest) = .ok (.v (.int (t * 31)), Sm.cells ⟨xs, x, n + 1, t⟩ rest) := by
            simp only [binOp, W.view]
            rw [if_pos (.inr (by decide))]
            rfl
          have hv : evE ⟨callF T g d, g⟩ (.bin .mod (.bf .int (.cons (.bin .add (.bin .add (.bin .mul (.sub (.var 0) (.lit (.int 3))) (.lit (.int 31))) (.sub (.var 0) (.lit (.int 1)))) (.lit (.int 7))) .nil)) (.lit (.int 2147483647))) (drE m) (Sm.cells ⟨xs, x, n + 1, t⟩ rest) =
              .ok (.v (.int ((t * 31 + x + 7) % 2147483647)), Sm.cells ⟨xs, x, n + 1, t⟩ rest) :=
            e_bin (x := .v (.int (t * 31 + x + 7))) (e_bf (ps := [.int (t * 31 + x + 7)]) (l_cons (e_bin (x := .v (.int (t * 31 + x))) (e_bin (x := .v (.int (t * 31))) (y := .v (.int x)) (e_bin (x := .v (.int t)) (e_sub rfl rfl rfl) rfl hmul) (e_sub rfl rfl rfl) rfl) rfl rfl) l_nil) rfl rfl) rfl rfl
          refine x_cons (S1 := Sm.cells ⟨xs, x, n + 1, (t * 31 + x + 7) % 2147483647⟩ rest) (x_sub hv rfl rfl rfl) (x_cons rfl x_nil)
        · refine ⟨⟨xs, x, n + 1, t⟩, fun out ho => ?_, rfl, by show 0 ≤ x; omega, ht, ht2⟩
          refine x_cons (S1 := Sm.cells ⟨x :: xs, a, n + 1, t⟩ rest) rfl (x_cons (x_ite (dr_test _ _ rfl) ?_) ho)
          rw [if_pos hc]
          refine x_cons (hp _) (x_cons (x_ite (bb := decide (x < 1000000000000000000)) rfl ?_) x_nil)
          rw [if_neg (by simpa using h18)]
          exact x_nil
    · refine ⟨{ s with n := s.n + 1 }, fun out ho => ?_, rfl, ha, ht, ht2⟩
      refine x_cons (S1 := Sm.cells { s with n := s.n + 1 } rest) rfl (x_cons (x_ite (dr_test _ _ rfl) ?_) ho)
      rw [if_neg hc]
      exact x_nil
  obtain ⟨⟨xs, a, n, t⟩, go, e1, h1, h2, h3⟩ := two
  have e1' : n = s.n + 1 := e1
  have h1 : 0 ≤ a := h1
  have h2 : 0 ≤ t := h2
  have h3 : t < 2147483647 := h3
  have hn0 : 0 ≤ n := by omega
  have hn9 : n ≤ B + 1 := by omega
  have fin : ∀ {r : Int} {s' : Sm}, exS ⟨callF T g d, g⟩ f__law_draw (drE m) (s.cells rest) = .ret (.v (.int r)) (s'.cells rest) → callF T g (d + 1) "_law_draw" [.c 1, .v (.int m)] (s.cells rest) = .ok (.v (.int r), s'.cells rest) := fun {r s'} h => by
    unfold callF
    rw [hT]
    show (match exS ⟨callF T g d, g⟩ f__law_draw (drE m) (s.cells rest) with
      | .ret w S1 => fnEnd false (s.cells rest).length w S1
      | .nx _ S1 => fnEnd false (s.cells rest).length (.v .non) S1
      | .ex c fs _ S1 => .ex c fs (S1.take (s.cells rest).length)
      | _ => .no) = _
    rw [h]
    show R.ok (W.v (.int r), (s'.cells rest).take (s.cells rest).length) = _
    rw [List.take_of_length_le (by simp [Sm.cells])]
  by_cases hpos : 0 < a
  · refine ⟨⟨xs, a / m, n, t⟩, a % m, fin (go _ ?_), ⟨Int.ediv_nonneg h1 (Int.le_of_lt hm), hn0, hn9, h2, h3⟩, Int.emod_nonneg _ (by omega), Int.emod_lt_of_pos _ hm⟩
    refine x_ret_cons (x_ite (bb := decide (0 < a)) rfl ?_)
    rw [if_pos (decide_eq_true hpos)]
    have hmod : binOp .mod (.v (.int a)) (.v (.int m)) (Sm.cells ⟨xs, a, n, t⟩ rest) = .ok (.v (.int (a % m)), Sm.cells ⟨xs, a, n, t⟩ rest) := by
      simp only [binOp, W.view]
      rw [if_pos hm]
      rfl
    have hdiv : binOp .fdiv (.v (.int a)) (.v (.int m)) (Sm.cells ⟨xs, a, n, t⟩ rest) = .ok (.v (.int (a / m)), Sm.cells ⟨xs, a, n, t⟩ rest) := by
      simp only [binOp, W.view]
      rw [if_pos ⟨hm, hm2⟩]
      rfl
    exact x_cons (x_set (e_bin (x := .v (.int a)) (e_bf (ps := [.int a]) (l_cons (e_sub rfl rfl rfl) l_nil) rfl rfl) rfl hmod)) (x_cons (S1 := Sm.cells ⟨xs, a / m, n, t⟩ rest) (x_sub (e_bin (x := .v (.int a)) (e_sub rfl rfl rfl) rfl hdiv) rfl rfl rfl) (x_ret_cons (x_ret rfl)))
  · have hz : a = 0 := by omega
    have hn1 : 0 ≤ n ∧ n < 1000001 := by omega
    have hb1 : (t + 104729 * n + 17).natAbs < 18446744073709551616 := by omega
    have pw : ∀ (S : Cells) (i : Int) (j : Int), 0 ≤ j → j ≤ 1000000 → i.natAbs < 18446744073709551616 → binOp .pow (.v (.int i)) (.v (.int j)) S = .ok (.v (.int (i ^ j.toNat)), S) := fun S i j h1 h2 h3 => by
      simp only [binOp, W.view]
      rw [if_pos ⟨h1, h2, h3⟩]
      rfl
    have md : ∀ (S : Cells) (i j : Int), 0 < j → binOp .mod (.v (.int i)) (.v (.int j)) S = .ok (.v (.int (i % j)), S) := fun S i j h => by
      simp only [binOp, W.view]
      rw [if_pos h]
      rfl
    have ml : ∀ (S : Cells) (i j : Int), i.natAbs < 18446744073709551616 ∨ j.natAbs < 18446744073709551616 → binOp .mul (.v (.int i)) (.v (.int j)) S = .ok (.v (.int (i * j)), S) := fun S i j h => by
      simp only [binOp, W.view]
      rw [if_pos h]
      rfl
    obtain ⟨mx, hmx⟩ : ∃ mx : Int, mx = (t + 104729 * n + 17) ^ (5 : Int).toNat % 2147483629 := ⟨_, rfl⟩
    have hmx1 : 0 ≤ mx := by rw [hmx]; exact Int.emod_nonneg _ (by decide)
    have hmx2 : mx < 2147483629 := by rw [hmx]; exact Int.emod_lt_of_pos _ (by decide)
    have hnn : 0 ≤ 40503 * n * n := Int.mul_nonneg (by omega) hn1.1
    have hnn2 : 40503 * n * n ≤ 40503 * 1000001 * 1000001 := by
      have h1 : 40503 * n ≤ 40503 * 1000001 := by omega
      calc 40503 * n * n ≤ 40503 * 1000001 * n := Int.mul_le_mul_of_nonneg_right h1 hn1.1
        _ ≤ 40503 * 1000001 * 1000001 := Int.mul_le_mul_of_nonneg_left (by omega) (by decide)
    have hb2 : (mx * 48271 + 40503 * n * n + 13).natAbs < 18446744073709551616 := by omega
    refine ⟨⟨xs, a, n, t⟩, (mx * 48271 + 40503 * n * n + 13) ^ (3 : Int).toNat % 1000000007 % m, fin (go _ ?_), ⟨h1, hn0, hn9, h2, h3⟩, Int.emod_nonneg _ (by omega), Int.emod_lt_of_pos _ hm⟩
    refine x_cons (x_ite (bb := decide (0 < a)) rfl (by rw [if_neg (by simpa using hpos)]; exact x_nil)) ?_
    have h2e : evE ⟨callF T g d, g⟩ (.sub (.var 0) (.lit (.int 2))) (drE m) (Sm.cells ⟨xs, a, n, t⟩ rest) = .ok (.v (.int n), Sm.cells ⟨xs, a, n, t⟩ rest) := e_sub rfl rfl rfl
    have hset : exS ⟨callF T g d, g⟩ (.set 2 (.bin .mod (.bin .pow (.bin .add (.bin .add (.sub (.var 0) (.lit (.int 3))) (.bin .mul (.lit (.int 104729)) (.sub (.var 0) (.lit (.int 2))))) (.lit (.int 17))) (.lit (.int 5))) (.lit (.int 2147483629)))) (drE m) (Sm.cells ⟨xs, a, n, t⟩ rest) =
        .nx [some (.c 1), some (.v (.int m)), some (.v (.int mx)), none] (Sm.cells ⟨xs, a, n, t⟩ rest) := by
      rw [hmx]
      exact x_set (e_bin (e_bin (e_bin (x := .v (.int (t + 104729 * n))) (e_bin (x := .v (.int t)) (y := .v (.int (104729 * n))) (e_sub rfl rfl rfl) (e_bin rfl h2e (ml _ _ _ (.inl (by decide)))) rfl) rfl rfl) rfl (pw _ _ _ (by decide) (by decide) hb1)) rfl (md _ _ _ (by decide)))
    refine x_cons hset (x_ret_cons (x_ret ?_))
    have h2e' : evE ⟨callF T g d, g⟩ (.sub (.var 0) (.lit (.int 2))) [some (.c 1), some (.v (.int m)), some (.v (.int mx)), none] (Sm.cells ⟨xs, a, n, t⟩ rest) = .ok (.v (.int n), Sm.cells ⟨xs, a, n, t⟩ rest) := e_sub rfl rfl rfl
    exact e_bin (e_bin (e_bin (e_bin (x := .v (.int (mx * 48271 + 40503 * n * n))) (e_bin (x := .v (.int (mx * 48271))) (y := .v (.int (40503 * n * n))) (e_bin rfl rfl (ml _ _ _ (.inr (by decide)))) (e_bin (e_bin rfl h2e' (ml _ _ _ (.inl (by decide)))) h2e' (ml _ _ _ (.inr (by omega)))) rfl) rfl rfl) rfl (pw _ _ _ (by decide) (by decide) hb2)) rfl (md _ _ _ (by decide))) rfl (md _ _ _ hm)
end
end LS

set_option Elab.async false
set_option linter.all false
set_option maxRecDepth 100000
set_option maxHeartbeats 2000000
/-! LM3: lists that grow, comprehensions. -/
namespace LS
open PySem L2
theorem get_last (S : Cells) (c : Cell) : (S ++ [c])[S.length]? = some c := by simp
theorem set_last (S : Cells) (c c' : Cell) : (S ++ [c]).set S.length c' = S ++ [c'] := by simp
theorem plain_low (ps : List P) (k : Nat) : (ps.map W.v).all (refBelow k) = true := by
  rw [List.all_eq_true]
  intro y hy
  obtain ⟨i, _, rfl⟩ := List.mem_map.mp hy
  rfl
theorem allP_map : ∀ ps : List P, allP (ps.map W.v) = some ps
  | [] => rfl
  | p :: ps => by simp [allP, allP_map ps]
theorem push_last (S : Cells) (acc : List P) (p : P) (h : acc.length < lim) : pushC S.length (.v p) (S ++ [.lst (acc.map W.v)]) = .ok (S ++ [.lst ((acc ++ [p]).map W.v)]) := by
  unfold pushC
  rw [get_last]
  simp only [List.length_map, if_pos h]
  unfold write
  rw [if_pos]
  · rw [set_last]
    simp
  · show (acc.map W.v ++ [W.v p]).all (refBelow S.length) = true
    have := plain_low (acc ++ [p]) S.length
    simpa using this
theorem fin_lst (S : Cells) (ps : List P) : finC false S.length (S ++ [.lst (ps.map W.v)]) = .ok (.v (.lst ps), S) := by
  unfold finC
  simp only [get_last, Cell.view, allP_map, Option.map_some]
  simp
/-- what a family of states shares -/
structure Fam (σ : Type) where
  st : σ → Cells → Cells
  ap : ∀ s r c, st s (r ++ [c]) = st s r ++ [c]
  ln : ∀ s s' r, (st s r).length = (st s' r).length
def famS : Fam Sm := ⟨Sm.cells, fun _ _ _ => rfl, fun s s' r => by simp [Sm.cells]⟩
def famU : Fam Unit := ⟨fun _ r => r, fun _ _ _ => rfl, fun _ _ _ => rfl⟩
section
variable {σ : Type} {C : Cn} {env : Env} {own : List (Str × Nat)} {tg : Tg} {it ifs elt : E} {rest : Cells}
/-- a comprehension of plain things: Inv of what is left, what was found, the state -/
theorem lc_ok (F : Fam σ) (Inv : List W → List P → σ → Prop) {xs : List W} {s : σ} {S0 : Cells} (hi : evI C it env S0 = .ok (.st xs, F.st s rest)) (hz : xs.length ≤ lim) (h0 : Inv xs [] s)
    (step : ∀ x xs acc s, Inv (x :: xs) acc s → ∃ e0 s1, setTg tg x (wipeE env (own.map (·.2))) = some e0 ∧
      ((evIf C ifs e0 (F.st s (rest ++ [.lst (acc.map W.v)])) = .ok (false, F.st s1 (rest ++ [.lst (acc.map W.v)])) ∧ Inv xs acc s1) ∨
        ∃ s2 p, evIf C ifs e0 (F.st s (rest ++ [.lst (acc.map W.v)])) = .ok (true, F.st s1 (rest ++ [.lst (acc.map W.v)])) ∧ evE C elt e0 (F.st s1 (rest ++ [.lst (acc.map W.v)])) = .ok (.v p, F.st s2 (rest ++ [.lst (acc.map W.v)])) ∧ Inv xs (acc ++ [p]) s2)) :
    ∃ ps s', evE C (.lc false own tg it ifs elt) env S0 = .ok (.v (.lst ps), F.st s' rest) ∧ Inv [] ps s' := by
  have lp : ∀ (ys : List W) (acc : List P) (s0 : σ), acc.length + ys.length ≤ lim → Inv ys acc s0 → ∃ ps s', loopL (lcTurn C env own tg ifs elt (F.st s rest).length) ys (F.st s0 rest ++ [.lst (acc.map W.v)]) = .ok (F.st s' rest ++ [.lst (ps.map W.v)]) ∧ Inv [] ps s' := by
    intro ys
    induction ys with
    | nil => exact fun acc s0 _ h => ⟨acc, s0, rfl, h⟩
    | cons y ys ih =>
      intro acc s0 hl h
      obtain ⟨e0, s1, h1, h2⟩ := step y ys acc s0 h
      rcases h2 with ⟨h2, h3⟩ | ⟨s2, p, h2, h3, h4⟩
      · obtain ⟨ps, s', h5, h6⟩ := ih acc s1 (by simp only [List.length_cons] at hl; omega) h3
        refine ⟨ps, s', ?_, h6⟩
        unfold loopL
        have : lcTurn C env own tg ifs elt (F.st s rest).length y (F.st s0 rest ++ [.lst (acc.map W.v)]) = .ok (F.st s1 rest ++ [.lst (acc.map W.v)]) := by
          unfold lcTurn
          rw [h1]
          rw [F.ap, F.ap] at h2
          simp only [h2, bok]
          rfl
        rw [this]
        exact h5
      · have hl' : acc.length < lim := by simp only [List.length_cons] at hl; omega
        obtain ⟨ps, s', h5, h6⟩ := ih (acc ++ [p]) s2 (by simp only [List.length_cons, List.length_append, List.length_nil] at hl ⊢; omega) h4
        refine ⟨ps, s', ?_, h6⟩
        unfold loopL
        have : lcTurn C env own tg ifs elt (F.st s rest).length y (F.st s0 rest ++ [.lst (acc.map W.v)]) = .ok (F.st s2 rest ++ [.lst ((acc ++ [p]).map W.v)]) := by
          unfold lcTurn
          rw [h1]
          rw [F.ap, F.ap] at h2
          rw [F.ap, F.ap] at h3
          simp only [h2, bok, if_pos, h3]
          rw [F.ln s s2 rest]
          exact push_last _ acc p hl'
        rw [this]
        exact h5
  obtain ⟨ps, s', h1, h2⟩ := lp xs [] s (by simpa using hz) h0
  refine ⟨ps, s', e_lc hi h1 ?_, h2⟩
  rw [F.ln s s' rest]
  exact fin_lst _ ps
end
/-- a draw as an expression -/
theorem e_draw {T : Str → Option Fn} {g : Gm} (hT : T "_law_draw" = some (.fn 4 2 [] f__law_draw false)) (hg : g.fn "_law_draw" = true) {d : Nat} {a b : E} {env : Env} {s : Sm} {rest : Cells} {m B : Int} (ha : evE ⟨callF T g (d + 1), g⟩ a env (s.cells rest) = .ok (.c 1, s.cells rest))
    (hb : evE ⟨callF T g (d + 1), g⟩ b env (s.cells rest) = .ok (.v (.int m), s.cells rest)) (hs : s.ok B) (hB : B < 1000000) (hm : 0 < m) (hm2 : m < 1073741824) :
    ∃ (s' : Sm) (r : Int), evE ⟨callF T g (d + 1), g⟩ (.call "_law_draw" (.cons a (.cons b .nil))) env (s.cells rest) = .ok (.v (.int r), s'.cells rest) ∧ s'.ok (B + 1) ∧ 0 ≤ r ∧ r < m := by
  obtain ⟨s', r, h1, h2, h3, h4⟩ := draw_ok hT d (rest := rest) hs hB hm hm2
  exact ⟨s', r, e_call (l_cons ha (l_cons hb l_nil)) hg h1, h2, h3, h4⟩
end LS

set_option Elab.async false
set_option linter.all false
set_option maxRecDepth 100000
set_option maxHeartbeats 2000000
/-! LM4: names. -/
namespace LS
open PySem L2
def low (c : Nat) : Prop := 97 ≤ c ∧ c ≤ 122
def lowS (s : Str) : Prop := ∀ c ∈ s.cps.toList, low c
/-- a name that the program takes -/
def good (s : Str) : Prop := 1 ≤ s.length ∧ s.length ≤ 8 ∧ s ≠ "strike" ∧ lowS s
abbrev abc : Str := "abcdefghijklmnopqrstuvwxyz"
theorem abc_list : abc.cps.toList = (List.range 26).map (· + 97) := by decide +kernel
theorem mem_abc {c : Nat} : c ∈ abc.cps.toList ↔ low c := by
  rw [abc_list]
  simp only [List.mem_map, List.mem_range, low]
  constructor
  · rintro ⟨a, h, rfl⟩
    omega
  · intro h
    exact ⟨c - 97, by omega, by omega⟩
theorem strOk_low {s : Str} (h : lowS s) : PyData.strOk s = true := by
  unfold PyData.strOk
  rw [← Array.all_toList, List.all_eq_true]
  intro c hc
  have := h c hc
  unfold low at this
  exact decide_eq_true (by omega)
theorem eqP_str {a b : Str} (ha : PyData.strOk a = true) (hb : PyData.strOk b = true) : eqP (.str a) (.str b) = some (a == b) := by
  simp [eqP, P.py, SeqAt.shaped, PyData.canLay0, PyData.depth, ha, hb, PyData.eqv]
theorem eqS_str (a b : Str) : eqS (.str a) (.str b) = some (a == b) := by
  simp only [eqS]
  congr 1
theorem join_low (ys : List Str) (h : ∀ y ∈ ys, lowS y) : lowS (Txt.join Str.empty ys) ∧ (Txt.join Str.empty ys).length = (ys.map (·.length)).sum := by
  have fold : ∀ (ys : List Str) (acc : Array Nat), (∀ y ∈ ys, lowS y) → (∀ c ∈ acc.toList, low c) → (∀ c ∈ (ys.foldl (fun acc p => acc ++ Str.empty.cps ++ p.cps) acc).toList, low c) ∧ (ys.foldl (fun acc p => acc ++ Str.empty.cps ++ p.cps) acc).size = acc.size + (ys.map (·.length)).sum := by
    intro ys
    induction ys with
    | nil => exact fun acc _ h => ⟨h, by simp⟩
    | cons y ys ih =>
      intro acc hy ha
      have := ih (acc ++ Str.empty.cps ++ y.cps) (fun z hz => hy z (List.mem_cons_of_mem _ hz)) (by
        intro c hc
        simp only [Array.toList_append, List.mem_append] at hc
        rcases hc with (hc | hc) | hc
        · exact ha c hc
        · simp [Str.empty] at hc
        · exact hy y List.mem_cons_self c hc)
      refine ⟨this.1, ?_⟩
      simp only [List.foldl_cons, List.map_cons, List.sum_cons]
      rw [this.2]
      simp [Str.empty, Str.length]
      omega
  cases ys with
  | nil => exact ⟨fun c hc => by simp [Txt.join, Builtin.Str.glued, Str.empty] at hc, rfl⟩
  | cons y ys =>
    have := fold ys y.cps (fun z hz => h z (List.mem_cons_of_mem _ hz)) (h y List.mem_cons_self)
    exact ⟨this.1, by
      show (ys.foldl (fun acc p => acc ++ Str.empty.cps ++ p.cps) y.cps).size = _
      rw [this.2]
      simp [Str.length]⟩
theorem strsOf_map : ∀ ys : List Str, strsOf (ys.map P.str) = some ys
  | [] => rfl
  | y :: ys => by simp [strsOf, strsOf_map ys]
theorem flat_strs (ys : List Str) : (ys.map P.str).all flatP = true := by
  rw [List.all_eq_true]
  intro p hp
  obtain ⟨y, _, rfl⟩ := List.mem_map.mp hp
  rfl
theorem inP_strs (x : Str) (ys : List Str) : inP (.str x) (.lst (ys.map P.str)) = some (decide (x ∈ ys)) := by
  unfold inP
  simp only [flat_strs, flatP, Bool.and_self, if_true]
  congr 1
  rw [List.any_map]
  apply Bool.eq_iff_iff.mpr
  rw [List.any_eq_true, decide_eq_true_iff]
  constructor
  · rintro ⟨y, hy, he⟩
    have : (y == x) = true := he
    rw [beq_iff_eq] at this
    exact this ▸ hy
  · intro h
    exact ⟨x, h, by show (x == x) = true; simp⟩
/-- a comprehension that only looks -/
theorem lc_pure {σ α : Type} (F : Fam σ) {C : Cn} {env : Env} {own : List (Str × Nat)} {tg : Tg} {it ifs elt : E} {rest : Cells} {ys : List α} {w : α → W} {b : α → Bool} {f : α → P} {s : σ} {S0 : Cells} (hi : evI C it env S0 = .ok (.st (ys.map w), F.st s rest)) (hz : ys.length ≤ lim)
    (step : ∀ y ∈ ys, ∀ R, ∃ e0, setTg tg (w y) (wipeE env (own.map (·.2))) = some e0 ∧ evIf C ifs e0 (F.st s (rest ++ [R])) = .ok (b y, F.st s (rest ++ [R])) ∧ (b y = true → evE C elt e0 (F.st s (rest ++ [R])) = .ok (.v (f y), F.st s (rest ++ [R])))) :
    evE C (.lc false own tg it ifs elt) env S0 = .ok (.v (.lst ((ys.filter b).map f)), F.st s rest) := by
  have := lc_ok F (Inv := fun xs acc s' => s' = s ∧ ∃ zs, xs = zs.map w ∧ (∃ us, us ++ zs = ys ∧ acc = (us.filter b).map f)) (C := C) (env := env) (own := own) (tg := tg) (it := it) (ifs := ifs) (elt := elt) (rest := rest) hi (by simpa using hz) ⟨rfl, ys, rfl, [], rfl, rfl⟩ (by
    rintro x xs acc s' ⟨rfl, zs, hzs, us, hus, hacc⟩
    cases zs with
    | nil => cases hzs
    | cons z zs =>
      cases hzs
      obtain ⟨e0, h1, h2, h3⟩ := step z (by rw [← hus]; simp) (.lst (acc.map W.v))
      refine ⟨e0, s', h1, ?_⟩
      cases hb : b z with
      | false =>
        left
        rw [hb] at h2
        exact ⟨h2, rfl, zs, rfl, us ++ [z], by simp [← hus], by simp [hacc, hb]⟩
      | true =>
        right
        rw [hb] at h2
        exact ⟨s', f z, h2, h3 hb, rfl, zs, rfl, us ++ [z], by simp [← hus], by simp [hacc, hb]⟩)
  obtain ⟨ps, s', h1, rfl, zs, hzs, us, hus, hps⟩ := this
  have : zs = [] := by
    cases zs with
    | nil => rfl
    | cons _ _ => cases hzs
  subst this
  rw [List.append_nil] at hus
  subst hus
  rw [← hps]
  exact h1
end LS

set_option Elab.async false
set_option linter.all false
set_option maxRecDepth 100000
set_option maxHeartbeats 2000000
/-! LM5: a fresh name. -/
namespace LS
open PySem L2
instance : DecidablePred low := fun _ => inferInstanceAs (Decidable (_ ∧ _))
instance (s : Str) : Decidable (lowS s) := inferInstanceAs (Decidable (∀ c ∈ s.cps.toList, low c))
instance (s : Str) : Decidable (good s) := inferInstanceAs (Decidable (_ ∧ _ ∧ _ ∧ _))
theorem Sm.ok.mono {s : Sm} {B B' : Int} (h : s.ok B) (hb : B ≤ B') : s.ok B' := ⟨h.1, h.2.1, Int.le_trans h.2.2.1 hb, h.2.2.2⟩
def w7 : List Str := ["kind", "open", "column", "from", "to", "check", "fall"]
def w11 : List Str := ["clear", "lone", "fresh", "put", "turn", "fell", "spread", "stuck", "again", "bare", "hold"]
theorem w18_good : ∀ x ∈ w7 ++ w11, good x := by decide +kernel
theorem atI_nat {α : Type} {l : List α} {r : Int} (h0 : 0 ≤ r) (h : r < l.length) : atI l r = l[r.toNat]? := by
  unfold atI ixN
  rw [if_pos h0, if_pos h]
  rfl
theorem abc_at {r : Int} (h0 : 0 ≤ r) (h : r < 26) : ixP (.str abc) (.int r) = some (.str ⟨#[r.toNat + 97]⟩) := by
  have hl : abc.cps.toList.length = 26 := by decide +kernel
  have hlen : abc.length ≤ lim := by decide +kernel
  unfold ixP
  simp only [if_pos hlen]
  rw [atI_nat h0 (by rw [hl]; exact h), abc_list, List.getElem?_map, List.getElem?_range (by omega)]
  rfl
theorem sub_v {a b p : P} {S : Cells} (h : ixP a b = some p) : subOp (.v a) (.v b) S = .ok (.v p, S) := by
  simp only [subOp, h, ok1]
theorem lst_at {ps : List P} {r : Int} (h0 : 0 ≤ r) (h : r < ps.length) : ∃ p ∈ ps, ixP (.lst ps) (.int r) = some p := by
  unfold ixP
  simp only
  rw [atI_nat h0 h]
  have hn : r.toNat < ps.length := by omega
  exact ⟨ps[r.toNat], List.getElem_mem hn, List.getElem?_eq_getElem hn⟩
section
variable {T : Str → Option Fn} {g : Gm} (hTd : T "_law_draw" = some (.fn 4 2 [] f__law_draw false)) (hgd : g.fn "_law_draw" = true)
include hTd hgd
theorem name_lc (d : Nat) {s : Sm} {rest : Cells} {B : Int} {N : Nat} {xs : List W} {env : Env} {it : E} {S0 : Cells} (h0 : env[0]? = some (some (.c 1))) (h4 : env[4]? = some (some (.v (.str abc)))) (h5 : 5 < env.length) (hs : s.ok B) (hB : B + 100 < 1000000) (hN : xs.length = N) (hN8 : N ≤ 8)
    (hi : evI ⟨callF T g (d + 1), g⟩ it env S0 = .ok (.st xs, s.cells rest)) :
    ∃ (s' : Sm) (cs : List Nat), evE ⟨callF T g (d + 1), g⟩ (.lc false [("_law_k", 5)] (.name 5) it .nil (.sub (.var 4) (.call "_law_draw" (.cons (.var 0) (.cons (.lit (.int 26)) .nil))))) env S0 = .ok (.v (.lst (cs.map fun c => .str ⟨#[c]⟩)), s'.cells rest) ∧ cs.length = N ∧ (∀ c ∈ cs, low c) ∧ s'.ok (B + N) := by
  have := lc_ok famS (Inv := fun xs acc s => ∃ cs : List Nat, acc = cs.map (fun c => P.str ⟨#[c]⟩) ∧ (∀ c ∈ cs, low c) ∧ cs.length + xs.length = N ∧ s.ok (B + cs.length)) (C := ⟨callF T g (d + 1), g⟩) (env := env) (own := [("_law_k", 5)]) (tg := .name 5) (it := it) (ifs := .nil) (elt := .sub (.var 4) (.call "_law_draw" (.cons (.var 0) (.cons (.lit (.int 26)) .nil)))) (rest := rest) (s := s) hi
    (by rw [hN]; exact Nat.le_trans hN8 (by decide)) ⟨[], rfl, (fun _ h => nomatch h), (by simpa using hN), (by simpa using hs)⟩ (by
    rintro x xs acc s ⟨cs, rfl, hl, hlen, hok⟩
    simp only [List.length_cons] at hlen
    have hw : (wipeE env [5]) = env.set 5 none := rfl
    refine ⟨(env.set 5 none).set 5 (some x), s, rfl, .inr ?_⟩
    have e0 : ((env.set 5 none).set 5 (some x))[0]? = some (some (.c 1)) := by
      rw [List.getElem?_set_ne (by decide), List.getElem?_set_ne (by decide)]
      exact h0
    have e4 : ((env.set 5 none).set 5 (some x))[4]? = some (some (.v (.str abc))) := by
      rw [List.getElem?_set_ne (by decide), List.getElem?_set_ne (by decide)]
      exact h4
    obtain ⟨s2, r, k1, k2, k3, k4⟩ := e_draw hTd hgd (d := d) (a := .var 0) (b := .lit (.int 26)) (env := (env.set 5 none).set 5 (some x)) (s := s) (rest := rest ++ [.lst ((cs.map fun c => P.str ⟨#[c]⟩).map W.v)]) (m := 26) (B := B + cs.length) (by simp only [evE, e0]) (by simp only [evE]) hok (by omega) (by decide) (by decide)
    refine ⟨s2, .str ⟨#[r.toNat + 97]⟩, (by simp only [evIf]), ?_, cs ++ [r.toNat + 97], by simp, ?_, by simp; omega, ?_⟩
    · exact e_sub (S1 := s.cells _) (by simp only [evE, e4]; rfl) k1 (sub_v (abc_at k3 k4))
    · intro c hc
      rcases List.mem_append.mp hc with hc | hc
      · exact hl c hc
      · have : c = r.toNat + 97 := by simpa using hc
        unfold low
        omega
    · simp only [List.length_append, List.length_cons, List.length_nil]
      exact k2.mono (by omega))
  obtain ⟨ps, s', h1, cs, rfl, h2, h3, h4⟩ := this
  have hc : cs.length = N := by simpa using h3
  exact ⟨s', cs, h1, hc, h2, by rw [hc] at h4; exact h4⟩
end
end LS

set_option Elab.async false
set_option linter.all false
set_option maxRecDepth 100000
set_option maxHeartbeats 4000000
/-! LM6: a fresh name, all of it. -/
namespace LS
open PySem L2
theorem empty_str : ("" : Str) = Str.empty := by decide +kernel
theorem len1 (c : Nat) : Str.length ⟨#[c]⟩ = 1 := rfl
theorem sum_ones (cs : List Nat) : ((cs.map fun c => (⟨#[c]⟩ : Str)).map (·.length)).sum = cs.length := by
  induction cs with
  | nil => rfl
  | cons c cs ih =>
    simp only [List.map_cons, List.sum_cons, ih, len1, List.length_cons]
    omega
theorem join_cs (cs : List Nat) (S : Cells) (hl : cs.length ≤ 8) (h : ∀ c ∈ cs, low c) : ∃ nm : Str, bmOp .join (.v (.str "")) [.v (.lst (cs.map fun c => P.str ⟨#[c]⟩))] S = .ok (.v (.str nm), S) ∧ lowS nm ∧ nm.length = cs.length := by
  refine ⟨Txt.join Str.empty (cs.map fun c => ⟨#[c]⟩), ?_, (join_low _ ?_).1, ?_⟩
  · have e : (cs.map fun c => P.str ⟨#[c]⟩) = (cs.map fun c => (⟨#[c]⟩ : Str)).map P.str := by simp
    rw [e, empty_str]
    simp only [bmOp, joinOp, W.view, strsOf_map, ok1]
    rw [if_pos]
    rw [sum_ones]
    simp only [List.length_map]
    have : Str.empty.length = 0 := rfl
    rw [this]
    have : (8 : Nat) ≤ lim := by decide
    omega
  · intro y hy
    obtain ⟨c, hc, rfl⟩ := List.mem_map.mp hy
    intro z hz
    have : z = c := by simpa using hz
    rw [this]
    exact h c hc
  · rw [(join_low _ ?_).2, sum_ones]
    intro y hy
    obtain ⟨c, hc, rfl⟩ := List.mem_map.mp hy
    intro z hz
    have : z = c := by simpa using hz
    rw [this]
    exact h c hc
theorem frz_map : ∀ (ps : List P) (S : Cells), freezeL (ps.map W.v) S = .ok (ps, S)
  | [], S => rfl
  | p :: ps, S => by
    show ((freeze S (.v p)).bind fun q => (freezeL (ps.map W.v) q.2).bind fun q2 => .ok (q.1 :: q2.1, q2.2)) = _
    simp only [freeze, bok, frz_map ps S]
def litL : List P → E
  | [] => .nil
  | p :: ps => .cons (.lit p) (litL ps)
theorem ev_litL {C : Cn} {env : Env} {S : Cells} : ∀ ps : List P, evL C (litL ps) env S = .ok (ps.map W.v, S)
  | [] => l_nil
  | p :: ps => l_cons (by simp only [evE]) (ev_litL ps)
theorem e_lits {C : Cn} {env : Env} {S : Cells} (ps : List P) (h : ps.length ≤ lim) : evE C (.lst false (litL ps)) env S = .ok (.v (.lst ps), S) := e_lstF (ev_litL ps) (by rw [List.length_map]; exact h) (frz_map ps S)
theorem e_litT {C : Cn} {env : Env} {S : Cells} (ps : List P) (h : ps.length ≤ lim) : evE C (.tup (litL ps)) env S = .ok (.v (.tup ps), S) := e_tup (ev_litL ps) (by rw [List.length_map]; exact h) (frz_map ps S)
theorem add_lsts {a b : List P} {S : Cells} (h : a.length + b.length ≤ lim) : binOp .add (.v (.lst a)) (.v (.lst b)) S = .ok (.v (.lst (a ++ b)), S) := by
  simp only [binOp, W.view]
  rw [if_pos h]
  rfl
theorem strike_ok : PyData.strOk "strike" = true := by decide +kernel
/-- the other names -/
def qs : List Str := (List.range 26).map fun i => ⟨#[113, i + 97]⟩
theorem qs_good : ∀ x ∈ qs, good x := by decide +kernel
theorem qs_nodup : qs.Nodup := by decide +kernel
theorem exists_not_mem {α : Type} [DecidableEq α] {l t : List α} (hn : l.Nodup) (h : t.length < l.length) : ∃ x ∈ l, x ∉ t := by
  apply Classical.byContradiction
  intro hc
  have hsub : ∀ x ∈ l, x ∈ t := fun x hx => Classical.byContradiction fun hnx => hc ⟨x, hx, hnx⟩
  have := List.Nodup.length_le_of_subset hn hsub
  omega
section
variable {T : Str → Option Fn} {g : Gm} (hTd : T "_law_draw" = some (.fn 4 2 [] f__law_draw false)) (hgd : g.fn "_law_draw" = true)
include hTd hgd
theorem fresh_ok (hT : T "_law_fresh" = some (.fn 8 2 [] f__law_fresh false)) (d : Nat) {s : Sm} {rest : Cells} {B : Int} {j : Nat} {tk : List Str} (hs : s.ok B) (hB : B + 200 < 1000000) (hj : rest[j]? = some (.lst (tk.map fun x => .v (.str x)))) (htk : tk.length < 26) :
    ∃ (s' : Sm) (nm : Str), callF T g (d + 2) "_law_fresh" [.c 1, .c (j + 2)] (s.cells rest) = .ok (.v (.str nm), s'.cells rest) ∧ s'.ok (B + 11) ∧ good nm ∧ nm ∉ tk := by
  -- the end
  have fin : ∀ {nm : Str} {s' : Sm}, exS ⟨callF T g (d + 1), g⟩ f__law_fresh [some (.c 1), some (.c (j + 2)), none, none, none, none, none, none] (s.cells rest) = .ret (.v (.str nm)) (s'.cells rest) → callF T g (d + 2) "_law_fresh" [.c 1, .c (j + 2)] (s.cells rest) = .ok (.v (.str nm), s'.cells rest) := fun {nm s'} h => by
    rw [call_ret hT (as := [.c 1, .c (j + 2)]) rfl h, end_v, List.take_of_length_le (by simp [Sm.cells])]
  -- the words
  have hw : exS ⟨callF T g (d + 1), g⟩ (.par [4, 2] (.cons (.lit (.str abc)) (.cons (.lst false (litL (w7.map P.str))) .nil)))
      [some (.c 1), some (.c (j + 2)), none, none, none, none, none, none] (s.cells rest) = .nx [some (.c 1), some (.c (j + 2)), some (.v (.lst (w7.map P.str))), none, some (.v (.str abc)), none, none, none] (s.cells rest) :=
    x_par (l_cons (by simp only [evE]) (l_cons (e_lits _ (by decide)) l_nil)) rfl
  have hw2 : exS ⟨callF T g (d + 1), g⟩ (.set 2 (.bin .add (.var 2) (.lst false (litL (w11.map P.str)))))
      [some (.c 1), some (.c (j + 2)), some (.v (.lst (w7.map P.str))), none, some (.v (.str abc)), none, none, none] (s.cells rest) = .nx [some (.c 1), some (.c (j + 2)), some (.v (.lst ((w7 ++ w11).map P.str))), none, some (.v (.str abc)), none, none, none] (s.cells rest) := by
    rw [List.map_append]
    exact x_set (e_bin (x := .v (.lst (w7.map P.str))) (by simp only [evE]; rfl) (e_lits _ (by decide)) (add_lsts (by decide)))
  -- how many signs
  obtain ⟨s1, r1, k1, o1, p1, q1⟩ := e_draw hTd hgd (d := d) (a := .var 0) (b := .lit (.int 8)) (env := [some (.c 1), some (.c (j + 2)), some (.v (.lst ((w7 ++ w11).map P.str))), none, some (.v (.str abc)), none, none, none]) (s := s) (rest := rest) (m := 8) (B := B) rfl rfl hs (by omega) (by decide) (by decide)
  have hr : evI ⟨callF T g (d + 1), g⟩ (.rng (.cons (.bin .add (.lit (.int 1)) (.call "_law_draw" (.cons (.var 0) (.cons (.lit (.int 8)) .nil)))) .nil)) [some (.c 1), some (.c (j + 2)), some (.v (.lst ((w7 ++ w11).map P.str))), none, some (.v (.str abc)), none, none, none] (s.cells rest) =
      .ok (.st ((List.range (1 + r1).toNat).map fun (i : Nat) => W.v (.int (0 + (i : Int)))), s1.cells rest) := by
    refine i_rng (l_cons (e_bin rfl k1 rfl) l_nil) ?_
    show rngOf [.v (.int (1 + r1))] = _
    unfold rngOf
    simp only
    rw [if_pos ⟨by omega, by omega⟩]
  obtain ⟨s2, cs, k2, l2, c2, o2⟩ := name_lc hTd hgd d (s := s1) (rest := rest) (B := B + 1) (N := (1 + r1).toNat) rfl rfl (by simp) o1 (by omega) (by simp) (by omega) hr
  obtain ⟨nm1, k3, low1, len1'⟩ := join_cs cs (s2.cells rest) (by omega) c2
  have hset3 : exS ⟨callF T g (d + 1), g⟩ (.set 3 (.bm .join (.lit (.str "")) (.cons (.lc false [("_law_k", 5)] (.name 5) (.rng (.cons (.bin .add (.lit (.int 1)) (.call "_law_draw" (.cons (.var 0) (.cons (.lit (.int 8)) .nil)))) .nil)) .nil (.sub (.var 4) (.call "_law_draw" (.cons (.var 0) (.cons (.lit (.int 26)) .nil))))) .nil)))
      [some (.c 1), some (.c (j + 2)), some (.v (.lst ((w7 ++ w11).map P.str))), none, some (.v (.str abc)), none, none, none] (s.cells rest) =
      .nx [some (.c 1), some (.c (j + 2)), some (.v (.lst ((w7 ++ w11).map P.str))), some (.v (.str nm1)), some (.v (.str abc)), none, none, none] (s2.cells rest) :=
    x_set (e_bm rfl rfl (l_cons k2 l_nil) k3)
  -- a word instead
  obtain ⟨s3, r3, k4, o3, p3, q3⟩ := e_draw hTd hgd (d := d) (a := .var 0) (b := .lit (.int 8)) (env := [some (.c 1), some (.c (j + 2)), some (.v (.lst ((w7 ++ w11).map P.str))), some (.v (.str nm1)), some (.v (.str abc)), none, none, none]) (s := s2) (rest := rest) (m := 8) (B := B + 9) rfl rfl (o2.mono (by omega)) (by omega) (by decide) (by decide)
  have four : ∃ (s4 : Sm) (nm : Str), exS ⟨callF T g (d + 1), g⟩ (.set 3 (.ite (.cmp .eq (.call "_law_draw" (.cons (.var 0) (.cons (.lit (.int 8)) .nil))) (.lit (.int 0))) (.sub (.var 2) (.call "_law_draw" (.cons (.var 0) (.cons (.lit (.int 18)) .nil)))) (.var 3)))
      [some (.c 1), some (.c (j + 2)), some (.v (.lst ((w7 ++ w11).map P.str))), some (.v (.str nm1)), some (.v (.str abc)), none, none, none] (s2.cells rest) =
      .nx [some (.c 1), some (.c (j + 2)), some (.v (.lst ((w7 ++ w11).map P.str))), some (.v (.str nm)), some (.v (.str abc)), none, none, none] (s4.cells rest) ∧ s4.ok (B + 11) ∧ lowS nm ∧ 1 ≤ nm.length ∧ nm.length ≤ 8 := by
    have ht : testOf (evE ⟨callF T g (d + 1), g⟩ (.cmp .eq (.call "_law_draw" (.cons (.var 0) (.cons (.lit (.int 8)) .nil))) (.lit (.int 0))) [some (.c 1), some (.c (j + 2)), some (.v (.lst ((w7 ++ w11).map P.str))), some (.v (.str nm1)), some (.v (.str abc)), none, none, none] (s2.cells rest)) = .ok (r3 == 0, s3.cells rest) :=
      t_bl (e_cmp k4 rfl (by simp only [cmpOp, W.view, cmpP, eqS_int, ok1]))
    cases hb : (r3 == 0) with
    | false =>
      rw [hb] at ht
      exact ⟨s3, nm1, x_set (e_ite ht rfl), o3.mono (by omega), low1, by omega, by omega⟩
    | true =>
      rw [hb] at ht
      obtain ⟨s4, r4, k5, o4, p4, q4⟩ := e_draw hTd hgd (d := d) (a := .var 0) (b := .lit (.int 18)) (env := [some (.c 1), some (.c (j + 2)), some (.v (.lst ((w7 ++ w11).map P.str))), some (.v (.str nm1)), some (.v (.str abc)), none, none, none]) (s := s3) (rest := rest) (m := 18) (B := B + 10) rfl rfl (o3.mono (by omega)) (by omega) (by decide) (by decide)
      obtain ⟨p, hp, hip⟩ := lst_at (ps := (w7 ++ w11).map P.str) p4 (by rw [List.length_map]; exact q4)
      obtain ⟨nm, hnm, rfl⟩ := List.mem_map.mp hp
      have hg := w18_good nm hnm
      refine ⟨s4, nm, x_set (e_ite ht ?_), o4.mono (by omega), hg.2.2.2, hg.1, hg.2.1⟩
      rw [if_pos rfl]
      exact e_sub rfl k5 (sub_v hip)
  obtain ⟨s4, nm, k6, o4, low4, len4, len4'⟩ := four
  -- taken?
  have hv : ∀ (st : Sm) (X : Cells), W.view (st.cells (rest ++ X)) (.c (j + 2)) = some (.lst (tk.map P.str)) := fun st X => by
    have e : (st.cells (rest ++ X))[j + 2]? = some (.lst (tk.map fun x => .v (.str x))) := by
      show (rest ++ X)[j]? = _
      rw [List.getElem?_append_left (List.getElem?_eq_some_iff.mp hj).1]
      exact hj
    unfold W.view
    simp only [e]
    have e2 : (tk.map fun x => W.v (.str x)) = (tk.map P.str).map W.v := by simp
    simp only [Cell.view, e2, allP_map, Option.map_some]
  have hin : ∀ (st : Sm) (X : Cells) (x : Str), cmpOp .in_ (.v (.str x)) (.c (j + 2)) (st.cells (rest ++ X)) = .ok (.v (.bl (decide (x ∈ tk))), st.cells (rest ++ X)) := fun st X x => by
    unfold cmpOp
    rw [hv]
    simp only [W.view, cmpP, inP_strs, ok1]
  have hnin : ∀ (st : Sm) (X : Cells) (x : Str), cmpOp .nin (.v (.str x)) (.c (j + 2)) (st.cells (rest ++ X)) = .ok (.v (.bl (!decide (x ∈ tk))), st.cells (rest ++ X)) := fun st X x => by
    unfold cmpOp
    rw [hv]
    simp only [W.view, cmpP, inP_strs, ok1, Option.map_some]
  have hin0 := hin s4 [] nm
  rw [List.append_nil] at hin0
  have heq : cmpOp .eq (.v (.str nm)) (.v (.str "strike")) (s4.cells rest) = .ok (.v (.bl (nm == "strike")), s4.cells rest) := by
    simp only [cmpOp, W.view, cmpP, eqS_str, ok1]
  have htest : testOf (evE ⟨callF T g (d + 1), g⟩ (.or (.cmp .in_ (.var 3) (.var 1)) (.cmp .eq (.var 3) (.lit (.str "strike")))) [some (.c 1), some (.c (j + 2)), some (.v (.lst ((w7 ++ w11).map P.str))), some (.v (.str nm)), some (.v (.str abc)), none, none, none] (s4.cells rest)) = .ok (decide (nm ∈ tk) || (nm == "strike"), s4.cells rest) := by
    cases hb : decide (nm ∈ tk) with
    | true =>
      rw [hb] at hin0
      exact t_bl (e_or_t (e_cmp rfl rfl hin0))
    | false =>
      rw [hb] at hin0
      exact t_bl (e_or_f (e_cmp rfl rfl hin0) (e_cmp rfl rfl heq))
  by_cases hbad : (decide (nm ∈ tk) || (nm == "strike")) = true
  · -- one of the other names
    obtain ⟨x, hx, hxt⟩ := exists_not_mem qs_nodup (show tk.length < qs.length from htk)
    have inner : evE ⟨callF T g (d + 1), g⟩ (.lc false [("_law_sign", 7)] (.name 7) (.it (.var 4)) .nil (.bin .add (.lit (.str "q")) (.var 7))) [some (.c 1), some (.c (j + 2)), some (.v (.lst ((w7 ++ w11).map P.str))), some (.v (.str nm)), some (.v (.str abc)), none, none, none] (s4.cells rest) = .ok (.v (.lst (qs.map P.str)), s4.cells rest) := by
      have := lc_pure famS (C := ⟨callF T g (d + 1), g⟩) (env := [some (.c 1), some (.c (j + 2)), some (.v (.lst ((w7 ++ w11).map P.str))), some (.v (.str nm)), some (.v (.str abc)), none, none, none]) (own := [("_law_sign", 7)]) (tg := .name 7) (it := .it (.var 4)) (ifs := .nil) (elt := .bin .add (.lit (.str "q")) (.var 7)) (rest := rest) (s := s4) (S0 := s4.cells rest)
        (ys := abc.cps.toList) (w := fun c => .v (.str ⟨#[c]⟩)) (b := fun _ => true) (f := fun c => .str (("q" : Str) ++ ⟨#[c]⟩)) (ii_it (S1 := s4.cells rest) (by simp only [evE]; rfl) rfl) (by decide +kernel) (fun c hc R => ⟨_, rfl, (by simp [evIf]), fun _ => e_bin (S1 := famS.st s4 (rest ++ [R])) (S2 := famS.st s4 (rest ++ [R])) (x := .v (.str "q")) (y := .v (.str ⟨#[c]⟩)) (by simp only [evE]) (by simp only [evE]; rfl) (by
          simp only [binOp, W.view]
          rw [if_pos]
          · rfl
          · show 1 + 1 ≤ lim
            decide)⟩)
      rw [List.filter_eq_self.mpr (fun _ _ => rfl), abc_list, List.map_map] at this
      have e : qs.map P.str = (List.range 26).map ((fun c => P.str (("q" : Str) ++ ⟨#[c]⟩)) ∘ fun x => x + 97) := by
        unfold qs
        rw [List.map_map]
        exact List.map_congr_left fun i _ => rfl
      rw [e]
      exact this
    have outer : evE ⟨callF T g (d + 1), g⟩ (.lc false [("_law_one", 6)] (.name 6) (.it (.lc false [("_law_sign", 7)] (.name 7) (.it (.var 4)) .nil (.bin .add (.lit (.str "q")) (.var 7)))) (.cons (.cmp .nin (.var 6) (.var 1)) .nil) (.var 6)) [some (.c 1), some (.c (j + 2)), some (.v (.lst ((w7 ++ w11).map P.str))), some (.v (.str nm)), some (.v (.str abc)), none, none, none] (s4.cells rest) =
        .ok (.v (.lst ((qs.filter fun x => !decide (x ∈ tk)).map P.str)), s4.cells rest) :=
      lc_pure famS (rest := rest) (s := s4) (ys := qs) (w := fun x => .v (.str x)) (b := fun x => !decide (x ∈ tk)) (f := P.str) (ii_it inner (by simp only [itemsOf, List.map_map]; rfl)) (by decide +kernel) (fun c hc R => ⟨_, rfl, by
        simp only [evIf]
        exact t_bl (e_cmp (x := .v (.str c)) (y := .c (j + 2)) (by simp only [evE]; rfl) (by simp only [evE]; rfl) (hnin s4 [R] c)), fun _ => by simp only [evE]; rfl⟩)
    have hne : (0 : Int) < ((qs.filter fun x => !decide (x ∈ tk)).map P.str).length := by
      have hm : x ∈ qs.filter fun x => !decide (x ∈ tk) := List.mem_filter.mpr ⟨hx, by simp [hxt]⟩
      have : 0 < (qs.filter fun x => !decide (x ∈ tk)).length := List.length_pos_of_mem hm
      rw [List.length_map]
      omega
    obtain ⟨p, hp, hip⟩ := lst_at (ps := (qs.filter fun x => !decide (x ∈ tk)).map P.str) (r := 0) (by decide) hne
    obtain ⟨y, hy, rfl⟩ := List.mem_map.mp hp
    have hy2 := List.mem_filter.mp hy
    refine ⟨s4, y, fin (x_cons hw (x_cons hw2 (x_cons hset3 (x_cons k6 (x_ret_cons (x_ite htest ?_)))))), o4, qs_good y hy2.1, by simpa using hy2.2⟩
    rw [if_pos hbad]
    exact x_ret_cons (x_ret (e_sub outer (by simp only [evE]) (sub_v hip)))
  · refine ⟨s4, nm, fin (x_cons hw (x_cons hw2 (x_cons hset3 (x_cons k6 (x_cons (x_ite htest (by rw [if_neg hbad]; exact x_nil)) (x_ret_cons (x_ret rfl))))))), o4, ⟨len4, len4', ?_, low4⟩, ?_⟩
    · intro h
      rw [h] at hbad
      simp at hbad
    · intro h
      simp [h] at hbad
end
end LS

set_option Elab.async false
set_option linter.all false
set_option maxRecDepth 100000
set_option maxHeartbeats 4000000
/-! LM7: names, a pick. -/
namespace LS
open PySem L2
theorem strs_map (nms : List Str) : (nms.map fun x => W.v (.str x)) = (nms.map P.str).map W.v := by simp
/-- append to the last cell -/
theorem app_last (S : Cells) (acc : List P) (p : P) (h : acc.length < lim) : bmOp .append (.c S.length) [.v p] (S ++ [.lst (acc.map W.v)]) = .ok (.v .non, S ++ [.lst ((acc ++ [p]).map W.v)]) := by
  simp only [bmOp, appendOp, push_last S acc p h, bok]
theorem ty_last (S : Cells) (ws : List W) : bmTy .append (.c S.length) (S ++ [.lst ws]) = true := by
  simp only [bmTy, get_last]
  rfl
theorem ty_lastE (S : Cells) (ws : List W) : bmTy .extend (.c S.length) (S ++ [.lst ws]) = true := by
  simp only [bmTy, get_last]
  rfl
/-- a def hands out the list it built last -/
theorem end_last (S : Cells) (ps : List P) : fnEnd false S.length (.c S.length) (S ++ [.lst (ps.map W.v)]) = .ok (.v (.lst ps), S) := by
  unfold fnEnd
  simp only [Nat.lt_irrefl, if_false, get_last, Cell.view, allP_map, Option.map_some]
  simp
section
variable {T : Str → Option Fn} {g : Gm} (hTd : T "_law_draw" = some (.fn 4 2 [] f__law_draw false)) (hgd : g.fn "_law_draw" = true)
include hTd hgd
theorem names_ok (hTf : T "_law_fresh" = some (.fn 8 2 [] f__law_fresh false)) (hgf : g.fn "_law_fresh" = true) (hT : T "_law_names" = some (.fn 4 2 [] f__law_names false)) (d : Nat) {s : Sm} {rest : Cells} {B : Int} {M : Nat} (hs : s.ok B) (hB : B + 1000 < 1000000) (hM : M < 20) :
    ∃ (s' : Sm) (nms : List Str), callF T g (d + 3) "_law_names" [.c 1, .v (.int M)] (s.cells rest) = .ok (.v (.lst (nms.map P.str)), s'.cells rest) ∧ s'.ok (B + 11 * M) ∧ nms.length = M ∧ nms.Nodup ∧ ∀ x ∈ nms, good x := by
  have hD : (s.cells rest).length = rest.length + 2 := by simp [Sm.cells]
  obtain ⟨e, S, hloop, o, s', nms, rfl, rfl, hn, hg, hl, hok⟩ := forL_inv (body := exS ⟨callF T g (d + 2), g⟩ (.cons (.expr (.bm .append (.var 2) (.cons (.call "_law_fresh" (.cons (.var 0) (.cons (.var 2) .nil))) .nil))) .nil)) (tg := .name 3)
    (I := fun xs env S => ∃ (o : Option W) (s' : Sm) (nms : List Str), env = [some (.c 1), some (.v (.int M)), some (.c (rest.length + 2)), o] ∧ S = s'.cells (rest ++ [.lst (nms.map fun x => .v (.str x))]) ∧ nms.Nodup ∧ (∀ x ∈ nms, good x) ∧ nms.length + xs.length = M ∧ s'.ok (B + 11 * nms.length))
    (by
      rintro x xs env S ⟨o, s', nms, rfl, rfl, hn, hg, hl, hok⟩
      simp only [List.length_cons] at hl
      obtain ⟨s2, nm, k1, o2, g2, n2⟩ := fresh_ok hTd hgd hTf d (s := s') (rest := rest ++ [.lst (nms.map fun x => .v (.str x))]) (B := B + 11 * nms.length) (j := rest.length) (tk := nms) hok (by omega) (by simp) (by omega)
      have hD2 : (s2.cells rest).length = rest.length + 2 := by simp [Sm.cells]
      have h20 : (20 : Nat) ≤ lim := by decide
      have hap := app_last (s2.cells rest) (nms.map P.str) (.str nm) (by rw [List.length_map]; omega)
      rw [hD2, ← strs_map] at hap
      have e2 : ((nms.map P.str ++ [P.str nm]).map W.v) = ((nms ++ [nm]).map fun x => W.v (.str x)) := by simp
      rw [e2] at hap
      have hty := ty_last (s'.cells rest) (nms.map fun x => .v (.str x))
      rw [show (s'.cells rest).length = rest.length + 2 by simp [Sm.cells]] at hty
      have hty' : bmTy .append (.c (rest.length + 2)) (s'.cells (rest ++ [.lst (nms.map fun x => .v (.str x))])) = true := hty
      have hap' : bmOp .append (.c (rest.length + 2)) [.v (.str nm)] (s2.cells (rest ++ [.lst (nms.map fun x => .v (.str x))])) = .ok (.v .non, s2.cells (rest ++ [.lst ((nms ++ [nm]).map fun x => .v (.str x))])) := hap
      refine ⟨_, _, s2.cells (rest ++ [.lst ((nms ++ [nm]).map fun x => .v (.str x))]), rfl, .inl (x_cons (x_expr (e_bm (S1 := s'.cells (rest ++ [.lst (nms.map fun x => .v (.str x))])) (x := .c (rest.length + 2)) (by simp only [evE]; rfl) hty' (l_cons (e_call (l_cons (by simp only [evE]; rfl) (l_cons (by simp only [evE]; rfl) l_nil)) hgf k1) l_nil) hap')) x_nil), _, s2, nms ++ [nm], rfl, rfl, ?_, ?_, ?_, ?_⟩
      · rw [List.nodup_append]
        exact ⟨hn, by simp, fun a ha b hb => by
          have : b = nm := by simpa using hb
          rw [this]
          exact fun z => n2 (z ▸ ha)⟩
      · intro y hy
        rcases List.mem_append.mp hy with hy | hy
        · exact hg y hy
        · have : y = nm := by simpa using hy
          rw [this]
          exact g2
      · simp only [List.length_append, List.length_cons, List.length_nil]
        omega
      · simp only [List.length_append, List.length_cons, List.length_nil]
        exact o2.mono (by omega))
    ((List.range (M : Int).toNat).map fun (i : Nat) => W.v (.int (0 + (i : Int)))) [some (.c 1), some (.v (.int M)), some (.c (rest.length + 2)), none] (s.cells (rest ++ [.lst []])) ⟨none, s, [], rfl, rfl, List.nodup_nil, (fun _ h => nomatch h), (by simp), hs.mono (by simp)⟩
  have hlen : nms.length = M := by simpa using hl
  refine ⟨s', nms, ?_, by rw [hlen] at hok; exact hok, hlen, hn, hg⟩
  have hend := end_last (s'.cells rest) (nms.map P.str)
  rw [show (s'.cells rest).length = rest.length + 2 by simp [Sm.cells], ← strs_map] at hend
  rw [call_ret hT (as := [.c 1, .v (.int M)]) rfl (w := .c (rest.length + 2)) (S1 := s'.cells (rest ++ [.lst (nms.map fun x => .v (.str x))])) ?_, hD]
  · exact hend
  · refine x_cons (S1 := s.cells (rest ++ [.lst []])) (e := [some (.c 1), some (.v (.int M)), some (.c (rest.length + 2)), none]) (x_set (x := .c (rest.length + 2)) (e_lstT l_nil (by decide) ?_)) (x_cons (x_for (i_rng (l_cons (x := .v (.int M)) (by simp only [evE]; rfl) l_nil) ?_) hloop) (x_ret_cons (x_ret (by simp only [evE]; rfl))))
    · show (if (Cell.lst []).lows (s.cells rest).length = true then R.ok (W.c (s.cells rest).length, s.cells rest ++ [.lst []]) else .no) = _
      rw [if_pos (show (Cell.lst []).lows (s.cells rest).length = true from rfl), hD]
      rfl
    · unfold rngOf
      simp only
      rw [if_pos ⟨by omega, by omega⟩]
end
end LS

set_option Elab.async false
set_option linter.all false
set_option maxRecDepth 100000
set_option maxHeartbeats 4000000
/-! LM8: a pick. -/
namespace LS
open PySem L2
theorem take_cells (s s' : Sm) (rest : Cells) : (s'.cells rest).take (s.cells rest).length = s'.cells rest := List.take_of_length_le (by simp [Sm.cells])
section
variable {T : Str → Option Fn} {g : Gm} (hTd : T "_law_draw" = some (.fn 4 2 [] f__law_draw false)) (hgd : g.fn "_law_draw" = true)
include hTd hgd
theorem pick_ok (hT : T "_law_pick" = some (.fn 2 2 [] f__law_pick false)) (d : Nat) {s : Sm} {rest : Cells} {B : Int} {ps : List P} (hs : s.ok B) (hB : B + 10 < 1000000) (hp : 0 < ps.length) (hp2 : ps.length < 1000) :
    ∃ (s' : Sm) (p : P), callF T g (d + 2) "_law_pick" [.c 1, .v (.lst ps)] (s.cells rest) = .ok (.v p, s'.cells rest) ∧ s'.ok (B + 1) ∧ p ∈ ps := by
  obtain ⟨s1, r, k1, o1, p1, q1⟩ := e_draw hTd hgd (d := d) (a := .var 0) (b := .bf .len (.cons (.var 1) .nil)) (env := [some (.c 1), some (.v (.lst ps))]) (s := s) (rest := rest) (m := ps.length) (B := B) (by simp only [evE]; rfl)
    (e_bf (ps := [.lst ps]) (l_cons (x := .v (.lst ps)) (by simp only [evE]; rfl) l_nil) rfl rfl) hs (by omega) (by omega) (by omega)
  obtain ⟨p, hp, hip⟩ := lst_at (ps := ps) p1 q1
  refine ⟨s1, p, ?_, o1, hp⟩
  rw [call_ret hT (as := [.c 1, .v (.lst ps)]) rfl (w := .v p) (S1 := s1.cells rest) (x_ret_cons (x_ret (e_sub (x := .v (.lst ps)) (by simp only [evE]; rfl) k1 (sub_v hip)))), end_v, take_cells]
end
end LS

set_option Elab.async false
set_option linter.all false
set_option maxRecDepth 100000
set_option maxHeartbeats 4000000
/-! LM9: cuts, shapes. -/
namespace LS
open PySem L2
theorem cut_take {α : Type} (xs : List α) (m : Nat) (h : m ≤ xs.length) : cutL xs none (some (m : Int)) = xs.take m := by
  unfold cutL
  rw [HT.sIx_none, HT.sIx_nat, Nat.min_eq_left h]
  simp
theorem cut_mid {α : Type} (xs : List α) (a b : Nat) (ha : a ≤ b) (h : b ≤ xs.length) : cutL xs (some (a : Int)) (some (b : Int)) = (xs.drop a).take (b - a) := by
  unfold cutL
  rw [HT.sIx_nat, HT.sIx_nat, Nat.min_eq_left h, Nat.min_eq_left (Nat.le_trans ha h)]
def pK (k : Str × Bool) : P := .tup [.str k.1, .bl k.2]
structure Col where
  name : Str
  home : Str
  goal : Str
  rule : Str
def pC (c : Col) : P := .tup [.str c.name, .str c.home, .str c.goal, .str c.rule]
def shapeCell (ks : List (Str × Bool)) (cs : List Col) : Cell := .dct [(.inr "kinds", .v (.lst (ks.map pK))), (.inr "columns", .v (.lst (cs.map pC))), (.inr "checks", .v (.lst []))]
/-- a sound shape -/
structure Shape (ks : List (Str × Bool)) (cs : List Col) : Prop where
  nd : (ks.map (·.1) ++ cs.map (·.name)).Nodup
  good : ∀ x ∈ ks.map (·.1) ++ cs.map (·.name), LS.good x
  home : ∀ c ∈ cs, c.home ∈ ks.map (·.1)
  goal : ∀ c ∈ cs, c.goal ∈ ks.map (·.1)
  rule : ∀ c ∈ cs, c.rule = "fall" ∨ c.rule = "clear"
theorem slc_lst {xs : List P} {lo hi : Option Int} {S : Cells} : slcOp (.v (.lst xs)) lo hi S = .ok (.v (.lst (cutL xs lo hi)), S) := by
  simp only [slcOp, W.view, ok1]
end LS

set_option Elab.async false
set_option linter.all false
set_option maxRecDepth 100000
set_option maxHeartbeats 4000000
/-! LM10: the loop of a shape. -/
namespace LS
open PySem L2
def rules3 : List P := [.str "fall", .str "fall", .str "clear"]
theorem rule_pick {r : Int} (h0 : 0 ≤ r) (h : r < 3) : ∃ x : Str, (x = "fall" ∨ x = "clear") ∧ ixP (.lst rules3) (.int r) = some (.str x) := by
  have hr : r = 0 ∨ r = 1 ∨ r = 2 := by omega
  rcases hr with rfl | rfl | rfl
  · exact ⟨"fall", .inl rfl, rfl⟩
  · exact ⟨"fall", .inl rfl, rfl⟩
  · exact ⟨"clear", .inr rfl, rfl⟩
section
variable {T : Str → Option Fn} {g : Gm} (hTd : T "_law_draw" = some (.fn 4 2 [] f__law_draw false)) (hgd : g.fn "_law_draw" = true)
include hTd hgd
theorem shape_step (hTp : T "_law_pick" = some (.fn 2 2 [] f__law_pick false)) (hgp : g.fn "_law_pick" = true) (d : Nat) {s : Sm} {rest : Cells} {B : Int} {nms : List Str} {M : Nat} {most : W} {nm : Str} {cs : List Col} {o4 o7 o8 : Option W} (hs : s.ok B) (hB : B + 20 < 1000000) (hM : 0 < M) (hM2 : M ≤ nms.length) (hn : nms.length < 100) (hcs : cs.length < 100) :
    ∃ (s' : Sm) (c : Col) (o7' o8' : Option W), exS ⟨callF T g (d + 2), g⟩ (.cons (.par [7, 8] (.cons (.call "_law_pick" (.cons (.var 0) (.cons (.slc (.var 5) .nil (.cons (.var 1) .nil)) .nil))) (.cons (.call "_law_pick" (.cons (.var 0) (.cons (.slc (.var 5) .nil (.cons (.var 1) .nil)) .nil))) .nil)))
  (.cons (.expr (.bm .append (.var 6) (.cons (.tup (.cons (.var 3) (.cons (.var 7) (.cons (.var 8) (.cons (.sub (.lst false (litL rules3)) (.call "_law_draw" (.cons (.var 0) (.cons (.lit (.int 3)) .nil)))) .nil))))) .nil)))
  .nil)) [some (.c 1), some (.v (.int M)), some most, some (.v (.str nm)), o4, some (.v (.lst (nms.map P.str))), some (.c (rest.length + 2)), o7, o8] (s.cells (rest ++ [.lst ((cs.map pC).map W.v)])) =
      .nx [some (.c 1), some (.v (.int M)), some most, some (.v (.str nm)), o4, some (.v (.lst (nms.map P.str))), some (.c (rest.length + 2)), o7', o8'] (s'.cells (rest ++ [.lst (((cs ++ [c]).map pC).map W.v)])) ∧ s'.ok (B + 3) ∧ c.name = nm ∧ c.home ∈ nms.take M ∧ c.goal ∈ nms.take M ∧ (c.rule = "fall" ∨ c.rule = "clear") := by
  have hlen : ((nms.take M).map P.str).length = M := by simp [Nat.min_eq_left hM2]
  have sl : ∀ (env : Env) (S : Cells), env[5]? = some (some (.v (.lst (nms.map P.str)))) → env[1]? = some (some (.v (.int M))) → evE ⟨callF T g (d + 2), g⟩ (.slc (.var 5) .nil (.cons (.var 1) .nil)) env S = .ok (.v (.lst ((nms.take M).map P.str)), S) := fun env S h5 h1 => by
    have := e_slc (C := ⟨callF T g (d + 2), g⟩) (env := env) (S := S) (a := .var 5) (lo := .nil) (hi := .cons (.var 1) .nil) (x := .v (.lst (nms.map P.str))) (S1 := S) (i := none) (S2 := S) (j := some (M : Int)) (S3 := S) (by simp only [evE, h5]) (by simp only [evO]) (o_cons (by simp only [evE, h1])) slc_lst
    rw [cut_take _ _ (by rw [List.length_map]; exact hM2), ← List.map_take] at this
    exact this
  obtain ⟨s1, p1, k1, o1, m1⟩ := pick_ok hTd hgd hTp d (s := s) (rest := rest ++ [.lst ((cs.map pC).map W.v)]) (B := B) (ps := (nms.take M).map P.str) hs (by omega) (by rw [hlen]; exact hM) (by rw [hlen]; omega)
  obtain ⟨s2, p2, k2, o2, m2⟩ := pick_ok hTd hgd hTp d (s := s1) (rest := rest ++ [.lst ((cs.map pC).map W.v)]) (B := B + 1) (ps := (nms.take M).map P.str) o1 (by omega) (by rw [hlen]; exact hM) (by rw [hlen]; omega)
  obtain ⟨x1, hx1, rfl⟩ := List.mem_map.mp m1
  obtain ⟨x2, hx2, rfl⟩ := List.mem_map.mp m2
  obtain ⟨s3, r, k3, o3, p3, q3⟩ := e_draw hTd hgd (d := d + 1) (a := .var 0) (b := .lit (.int 3)) (env := [some (.c 1), some (.v (.int M)), some most, some (.v (.str nm)), o4, some (.v (.lst (nms.map P.str))), some (.c (rest.length + 2)), some (.v (.str x1)), some (.v (.str x2))]) (s := s2) (rest := rest ++ [.lst ((cs.map pC).map W.v)]) (m := 3) (B := B + 2) (by simp only [evE]; rfl) (by simp only [evE]) (o2.mono (by omega)) (by omega) (by decide) (by decide)
  obtain ⟨ru, hru, hix⟩ := rule_pick p3 q3
  have h100 : (100 : Nat) ≤ lim := by decide
  have hap := app_last (s3.cells rest) (cs.map pC) (pC ⟨nm, x1, x2, ru⟩) (by rw [List.length_map]; omega)
  rw [show (s3.cells rest).length = rest.length + 2 by simp [Sm.cells], show (cs.map pC ++ [pC ⟨nm, x1, x2, ru⟩]) = (cs ++ [Col.mk nm x1 x2 ru]).map pC by simp] at hap
  have hty := ty_last (s2.cells rest) ((cs.map pC).map W.v)
  rw [show (s2.cells rest).length = rest.length + 2 by simp [Sm.cells]] at hty
  have hty' : bmTy .append (.c (rest.length + 2)) (s2.cells (rest ++ [.lst ((cs.map pC).map W.v)])) = true := hty
  have hap' : bmOp .append (.c (rest.length + 2)) [.v (pC ⟨nm, x1, x2, ru⟩)] (s3.cells (rest ++ [.lst ((cs.map pC).map W.v)])) = .ok (.v .non, s3.cells (rest ++ [.lst (((cs ++ [Col.mk nm x1 x2 ru]).map pC).map W.v)])) := hap
  refine ⟨s3, ⟨nm, x1, x2, ru⟩, some (.v (.str x1)), some (.v (.str x2)), ?_, o3.mono (by omega), rfl, hx1, hx2, hru⟩
  refine x_cons (S1 := s2.cells (rest ++ [.lst ((cs.map pC).map W.v)])) (e := [some (.c 1), some (.v (.int M)), some most, some (.v (.str nm)), o4, some (.v (.lst (nms.map P.str))), some (.c (rest.length + 2)), some (.v (.str x1)), some (.v (.str x2))])
    (x_par (ws := [.v (.str x1), .v (.str x2)]) (l_cons (e_call (l_cons (x := .c 1) (by simp only [evE]; rfl) (l_cons (sl _ _ rfl rfl) l_nil)) hgp k1) (l_cons (e_call (l_cons (x := .c 1) (by simp only [evE]; rfl) (l_cons (sl _ _ rfl rfl) l_nil)) hgp k2) l_nil)) rfl) (x_cons (x_expr (e_bm (x := .c (rest.length + 2)) (by simp only [evE]; rfl) hty' (l_cons (e_tup (ws := [.v (.str nm), .v (.str x1), .v (.str x2), .v (.str ru)]) ?_ (by show 4 ≤ lim; decide) rfl) l_nil) hap')) x_nil)
  exact l_cons (by simp only [evE]; rfl) (l_cons (by simp only [evE]; rfl) (l_cons (by simp only [evE]; rfl) (l_cons (e_sub (e_lits _ (by decide)) k3 (sub_v hix)) l_nil)))
end
end LS

set_option Elab.async false
set_option linter.all false
set_option maxRecDepth 100000
set_option maxHeartbeats 4000000
/-! LM11: a shape. -/
namespace LS
open PySem L2
section
variable {T : Str → Option Fn} {g : Gm} (hTd : T "_law_draw" = some (.fn 4 2 [] f__law_draw false)) (hgd : g.fn "_law_draw" = true)
include hTd hgd
/-- the columns -/
theorem shape_cols (hTp : T "_law_pick" = some (.fn 2 2 [] f__law_pick false)) (hgp : g.fn "_law_pick" = true) (d : Nat) {rest : Cells} {B : Int} {nms : List Str} {M : Nat} {most : W} {o4 : Option W} (hB : B + 400 < 1000000) (hM : 0 < M) (hM2 : M ≤ nms.length) (hn : nms.length < 100) (ys : List Str) (hys : ys.length < 50)
    {s : Sm} (hs : s.ok B) (o3 o7 o8 : Option W) :
    ∃ (s' : Sm) (cs : List Col) (o3' o7' o8' : Option W), forL (exS ⟨callF T g (d + 2), g⟩ (.cons (.par [7, 8] (.cons (.call "_law_pick" (.cons (.var 0) (.cons (.slc (.var 5) .nil (.cons (.var 1) .nil)) .nil))) (.cons (.call "_law_pick" (.cons (.var 0) (.cons (.slc (.var 5) .nil (.cons (.var 1) .nil)) .nil))) .nil)))
  (.cons (.expr (.bm .append (.var 6) (.cons (.tup (.cons (.var 3) (.cons (.var 7) (.cons (.var 8) (.cons (.sub (.lst false (litL rules3)) (.call "_law_draw" (.cons (.var 0) (.cons (.lit (.int 3)) .nil)))) .nil))))) .nil)))
  .nil))) (.name 3) (ys.map fun x => .v (.str x)) [some (.c 1), some (.v (.int M)), some most, o3, o4, some (.v (.lst (nms.map P.str))), some (.c (rest.length + 2)), o7, o8] (s.cells (rest ++ [.lst []])) =
      .nx [some (.c 1), some (.v (.int M)), some most, o3', o4, some (.v (.lst (nms.map P.str))), some (.c (rest.length + 2)), o7', o8'] (s'.cells (rest ++ [.lst ((cs.map pC).map W.v)])) ∧ s'.ok (B + 150) ∧ cs.map (·.name) = ys ∧ ∀ c ∈ cs, c.home ∈ nms.take M ∧ c.goal ∈ nms.take M ∧ (c.rule = "fall" ∨ c.rule = "clear") := by
  obtain ⟨e, S, hl, o3', o7', o8', s', cs, rfl, rfl, h1, h2, h3⟩ := forL_inv (body := exS ⟨callF T g (d + 2), g⟩ _) (tg := .name 3)
    (I := fun xs env S => ∃ (o3 o7 o8 : Option W) (s' : Sm) (cs : List Col), env = [some (.c 1), some (.v (.int M)), some most, o3, o4, some (.v (.lst (nms.map P.str))), some (.c (rest.length + 2)), o7, o8] ∧ S = s'.cells (rest ++ [.lst ((cs.map pC).map W.v)]) ∧ (∃ zs, xs = zs.map (fun x => W.v (.str x)) ∧ cs.map (·.name) ++ zs = ys) ∧ s'.ok (B + 3 * cs.length) ∧ ∀ c ∈ cs, c.home ∈ nms.take M ∧ c.goal ∈ nms.take M ∧ (c.rule = "fall" ∨ c.rule = "clear"))
    (by
      rintro x xs env S ⟨o3, o7, o8, s', cs, rfl, rfl, ⟨zs, hzs, hcs⟩, hok, hall⟩
      cases zs with
      | nil => cases hzs
      | cons z zs =>
        cases hzs
        have hlen : cs.length < 50 := by
          have := congrArg List.length hcs
          simp only [List.length_append, List.length_map, List.length_cons] at this
          omega
        obtain ⟨s2, c, o7', o8', k1, k2, k3, k4, k5, k6⟩ := shape_step hTd hgd hTp hgp d (s := s') (rest := rest) (B := B + 3 * cs.length) (nms := nms) (M := M) (most := most) (nm := z) (cs := cs) (o4 := o4) (o7 := o7) (o8 := o8) hok (by omega) hM hM2 hn (by omega)
        refine ⟨_, _, _, rfl, .inl k1, _, o7', o8', s2, cs ++ [c], rfl, rfl, ⟨zs, rfl, by simp [k3, ← hcs]⟩, ?_, ?_⟩
        · simp only [List.length_append, List.length_cons, List.length_nil]
          exact k2.mono (by omega)
        · intro y hy
          rcases List.mem_append.mp hy with hy | hy
          · exact hall y hy
          · have : y = c := by simpa using hy
            rw [this]
            exact ⟨k4, k5, k6⟩)
    (ys.map fun x => .v (.str x)) _ (s.cells (rest ++ [.lst []])) ⟨o3, o7, o8, s, [], rfl, rfl, ⟨ys, rfl, rfl⟩, hs.mono (by simp), fun _ h => nomatch h⟩
  obtain ⟨zs, hz, hcs⟩ := h1
  have : zs = [] := by
    cases zs with
    | nil => rfl
    | cons _ _ => cases hz
  subst this
  rw [List.append_nil] at hcs
  have hlen : cs.length < 50 := by
    have := congrArg List.length hcs
    simp only [List.length_map] at this
    omega
  exact ⟨s', cs, o3', o7', o8', hl, h2.mono (by omega), hcs, h3⟩
end
end LS

set_option Elab.async false
set_option linter.all false
set_option maxRecDepth 100000
set_option maxHeartbeats 4000000
/-! LM12: a shape, all of it. -/
namespace LS
open PySem L2
section
variable {T : Str → Option Fn} {g : Gm} (hTd : T "_law_draw" = some (.fn 4 2 [] f__law_draw false)) (hgd : g.fn "_law_draw" = true)
include hTd hgd
/-- [(name, a test of a draw) for name in names] -/
theorem kinds_lc (d : Nat) {s : Sm} {rest : Cells} {B : Int} {i : Nat} {own : List (Str × Nat)} {it elt : E} {env : Env} {S0 : Cells} {ws : List W} {names : List Str} {tg : Tg} {q : W → Str} (hs : s.ok B) (hB : B + 100 < 1000000) (hws : ws.map q = names) (hl : names.length < 50)
    (hi : evI ⟨callF T g (d + 1), g⟩ it env S0 = .ok (.st ws, s.cells rest))
    (step : ∀ x ∈ ws, ∀ (s : Sm) (R : Cell) (b : Int), s.ok b → b < 1000000 → ∃ e0, setTg tg x (wipeE env (own.map (·.2))) = some e0 ∧ ∃ (s' : Sm) (v : Bool), evE ⟨callF T g (d + 1), g⟩ elt e0 (s.cells (rest ++ [R])) = .ok (.v (pK (q x, v)), s'.cells (rest ++ [R])) ∧ s'.ok (b + 1)) :
    ∃ (s' : Sm) (ks : List (Str × Bool)), evE ⟨callF T g (d + 1), g⟩ (.lc false own tg it .nil elt) env S0 = .ok (.v (.lst (ks.map pK)), s'.cells rest) ∧ s'.ok (B + 50) ∧ ks.map (·.1) = names := by
  have hlw : ws.length = names.length := by rw [← hws, List.length_map]
  obtain ⟨ps, s', h1, us, ks, h2, h3, h4, h5⟩ := lc_ok famS (Inv := fun xs acc s => ∃ (us : List W) (ks : List (Str × Bool)), us ++ xs = ws ∧ acc = ks.map pK ∧ ks.map (·.1) = us.map q ∧ s.ok (B + ks.length)) (C := ⟨callF T g (d + 1), g⟩) (env := env) (own := own) (tg := tg) (it := it) (ifs := .nil) (elt := elt) (rest := rest) (s := s) hi
    (by have : (50 : Nat) ≤ lim := by decide
        omega) ⟨[], [], rfl, rfl, rfl, by simpa using hs⟩ (by
    rintro x xs acc s ⟨us, ks, h2, rfl, h4, h5⟩
    have hk : ks.length = us.length := by
      have := congrArg List.length h4
      simpa using this
    have hu : us.length < 50 := by
      have := congrArg List.length h2
      simp only [List.length_append, List.length_cons] at this
      omega
    obtain ⟨e0, k1, s2, v, k2, k3⟩ := step x (by rw [← h2]; simp) s (.lst ((ks.map pK).map W.v)) (B + ks.length) h5 (by omega)
    refine ⟨e0, s, k1, .inr ⟨s2, pK (q x, v), by simp only [evIf], k2, us ++ [x], ks ++ [(q x, v)], by simp [← h2], by simp, by simp [h4], ?_⟩⟩
    simp only [List.length_append, List.length_cons, List.length_nil]
    exact k3.mono (by omega))
  have hk : ks.length = us.length := by
    have := congrArg List.length h4
    simpa using this
  rw [List.append_nil] at h2
  subst h2
  subst h3
  refine ⟨s', ks, h1, h5.mono (by omega), by rw [h4, hws]⟩
end
end LS

set_option Elab.async false
set_option linter.all false
set_option maxRecDepth 100000
set_option maxHeartbeats 4000000
/-! LM13: a shape handed out. -/
namespace LS
open PySem L2
/-- {'kinds': .., 'columns': .., 'checks': []} with the columns' list in the cell ahead -/
theorem dic_shape {C : Cn} {env : Env} {F : Cells} {ks : List (Str × Bool)} {cs : List Col} (h4 : env[4]? = some (some (.v (.lst (ks.map pK))))) (h6 : env[6]? = some (some (.c F.length))) :
    evE C (.dic true (.kv (.lit (.str "kinds")) (.var 4) (.kv (.lit (.str "columns")) (.var 6) (.kv (.lit (.str "checks")) (.lst false .nil) .nil)))) env (F ++ [.lst ((cs.map pC).map W.v)]) = .ok (.c (F.length + 1), F ++ [.dead, shapeCell ks cs]) := by
  have hK : evK C (.kv (.lit (.str "kinds")) (.var 4) (.kv (.lit (.str "columns")) (.var 6) (.kv (.lit (.str "checks")) (.lst false .nil) .nil))) env (F ++ [.lst ((cs.map pC).map W.v)] ++ [.dct []]) = .ok ([(.inr "kinds", .v (.lst (ks.map pK))), (.inr "columns", .v (.lst (cs.map pC))), (.inr "checks", .v (.lst []))], F ++ [.dead] ++ [.dct []]) := by
    have g6 : (F ++ [.lst ((cs.map pC).map W.v)] ++ [.dct []])[F.length]? = some (.lst ((cs.map pC).map W.v)) := by simp
    have hz : ([] : List W).length ≤ lim := by decide
    have f6 : freeze (F ++ [.lst ((cs.map pC).map W.v)] ++ [.dct []]) (.c F.length) = .ok (.lst (cs.map pC), F ++ [.dead] ++ [.dct []]) := by
      unfold freeze
      simp only [g6, Cell.view, allP_map, Option.map_some]
      simp
    have e3 : evE C (.lst false .nil) env (F ++ [.lst ((cs.map pC).map W.v)] ++ [.dct []]) = .ok (.v (.lst []), F ++ [.lst ((cs.map pC).map W.v)] ++ [.dct []]) := e_lstF l_nil hz rfl
    simp only [evK, evE, h4, h6, bok, keyOf]
    rw [show evL C .nil env (F ++ [.lst ((cs.map pC).map W.v)] ++ [.dct []]) = .ok ([], F ++ [.lst ((cs.map pC).map W.v)] ++ [.dct []]) from l_nil]
    simp only [bok, if_pos hz]
    rw [show freezeL [] (F ++ [.lst ((cs.map pC).map W.v)] ++ [.dct []]) = .ok ([], F ++ [.lst ((cs.map pC).map W.v)] ++ [.dct []]) from rfl]
    simp only [bok]
    rw [show freeze (F ++ [.lst ((cs.map pC).map W.v)] ++ [.dct []]) (.v (.lst [])) = .ok (.lst [], F ++ [.lst ((cs.map pC).map W.v)] ++ [.dct []]) from rfl]
    simp only [bok, f6]
    rw [show freeze (F ++ [.dead] ++ [.dct []]) (.v (.lst (ks.map pK))) = .ok (.lst (ks.map pK), F ++ [.dead] ++ [.dct []]) from rfl]
    rfl
  have hl : (F ++ [Cell.lst ((cs.map pC).map W.v)]).length = F.length + 1 := by simp
  have gD : (F ++ [.dead] ++ [.dct []])[F.length + 1]? = some (.dct []) := by simp
  rw [evE, hK]
  simp only [bok, hl, gD]
  rw [if_neg (by show ¬ 15 < 3; decide)]
  have hw : write (F.length + 1) (shapeCell ks cs) (F ++ [.dead] ++ [.dct []]) = .ok (F ++ [.dead, shapeCell ks cs]) := by
    unfold write
    rw [if_pos (show (shapeCell ks cs).lows (F.length + 1) = true from rfl)]
    congr 1
    simp
  have hfold : ([((.inr "kinds" : Key), W.v (.lst (ks.map pK))), (.inr "columns", .v (.lst (cs.map pC))), (.inr "checks", .v (.lst []))].foldl (fun acc z => setK acc z.1 z.2) []) = [((.inr "kinds" : Key), W.v (.lst (ks.map pK))), (.inr "columns", .v (.lst (cs.map pC))), (.inr "checks", .v (.lst []))] := rfl
  rw [hfold]
  show (write (F.length + 1) (shapeCell ks cs) (F ++ [.dead] ++ [.dct []])).bind _ = _
  rw [hw]
  simp [bok, finC]
end LS

set_option Elab.async false
set_option linter.all false
set_option maxRecDepth 100000
set_option maxHeartbeats 4000000
/-! LM14: _law_shape. -/
namespace LS
open PySem L2
theorem view_shape (ks : List (Str × Bool)) (cs : List Col) : (shapeCell ks cs).view = some (.dct [(.inr "kinds", .lst (ks.map pK)), (.inr "columns", .lst (cs.map pC)), (.inr "checks", .lst [])]) := rfl
section
variable {T : Str → Option Fn} {g : Gm} (hTd : T "_law_draw" = some (.fn 4 2 [] f__law_draw false)) (hgd : g.fn "_law_draw" = true)
include hTd hgd
theorem shape_ok (hTf : T "_law_fresh" = some (.fn 8 2 [] f__law_fresh false)) (hgf : g.fn "_law_fresh" = true) (hTn : T "_law_names" = some (.fn 4 2 [] f__law_names false)) (hgn : g.fn "_law_names" = true) (hTp : T "_law_pick" = some (.fn 2 2 [] f__law_pick false)) (hgp : g.fn "_law_pick" = true)
    (hT : T "_law_shape" = some (.fn 9 3 [] f__law_shapeO true)) (d : Nat) {s : Sm} {rest : Cells} {B : Int} {M : Nat} (hs : s.ok B) (hB : B + 2000 < 1000000) (hM : 0 < M) (hM3 : M ≤ 3) :
    ∃ (s' : Sm) (ks : List (Str × Bool)) (cs : List Col), callF T g (d + 4) "_law_shape" [.c 1, .v (.int M), .v (.int 4)] (s.cells rest) = .ok (.c (rest.length + 2), s'.cells (rest ++ [shapeCell ks cs])) ∧ s'.ok (B + 500) ∧ Shape ks cs ∧ ks.length = M ∧ cs.length ≤ 4 := by
  obtain ⟨s1, nms, k1, o1, l1, n1, g1⟩ := names_ok hTd hgd hTf hgf hTn d (s := s) (rest := rest) (B := B) (M := M + 4) hs (by omega) (by omega)
  obtain ⟨s2, r, k2, o2, p2, q2⟩ := e_draw hTd hgd (d := d + 2) (a := .var 0) (b := .var 2) (env := [some (.c 1), some (.v (.int M)), some (.v (.int 4)), none, none, some (.v (.lst (nms.map P.str))), some (.c (rest.length + 2)), none, none]) (s := s1) (rest := rest ++ [.lst []]) (m := 4) (B := B + 77) (by simp only [evE]; rfl) (by simp only [evE]; rfl) (o1.mono (by omega)) (by omega) (by decide) (by decide)
  obtain ⟨s3, cs, o3', o7', o8', k3, o3, n3, h3⟩ := shape_cols hTd hgd hTp hgp (d + 1) (rest := rest) (B := B + 78) (nms := nms) (M := M) (most := .v (.int 4)) (o4 := none) (by omega) hM (by omega) (by omega) ((nms.drop M).take (1 + r.toNat)) (by simp; omega) (s := s2) (o2.mono (by omega)) none none none
  have hrn : (r.toNat : Int) = r := by omega
  -- the kinds
  obtain ⟨s4, ks, k4, o4, n4⟩ := kinds_lc hTd hgd (d + 2) (s := s3) (rest := rest ++ [.lst ((cs.map pC).map W.v)]) (B := B + 228) (i := 0) (own := [("_law_name", 3)]) (tg := .name 3) (it := .it (.slc (.var 5) .nil (.cons (.var 1) .nil))) (elt := .tup (.cons (.var 3) (.cons (.cmp .gt (.call "_law_draw" (.cons (.var 0) (.cons (.lit (.int 3)) .nil))) (.lit (.int 0))) .nil)))
    (env := [some (.c 1), some (.v (.int M)), some (.v (.int 4)), o3', none, some (.v (.lst (nms.map P.str))), some (.c (rest.length + 2)), o7', o8']) (S0 := s3.cells (rest ++ [.lst ((cs.map pC).map W.v)])) (ws := (nms.take M).map fun x => .v (.str x)) (names := nms.take M) (q := fun w => match w with | .v (.str x) => x | _ => "") (o3.mono (by omega)) (by omega)
    (by rw [List.map_map]; exact List.map_id _) (by simp; omega)
    (ii_it (e_slc (x := .v (.lst (nms.map P.str))) (i := none) (j := some (M : Int)) (by simp only [evE]; rfl) (by simp only [evO]; rfl) (o_cons (by simp only [evE]; rfl)) slc_lst) (by
      rw [cut_take _ _ (by rw [List.length_map]; omega), ← List.map_take]
      simp only [itemsOf, List.map_map]
      rfl))
    (fun x hx st R b hst hb => by
      obtain ⟨nm, _, rfl⟩ := List.mem_map.mp hx
      refine ⟨_, rfl, ?_⟩
      obtain ⟨s5, r5, k5, o5, p5, q5⟩ := e_draw hTd hgd (d := d + 2) (a := .var 0) (b := .lit (.int 3)) (env := [some (.c 1), some (.v (.int M)), some (.v (.int 4)), some (.v (.str nm)), none, some (.v (.lst (nms.map P.str))), some (.c (rest.length + 2)), o7', o8']) (s := st) (rest := rest ++ [.lst ((cs.map pC).map W.v)] ++ [R]) (m := 3) (B := b) (by simp only [evE]; rfl) (by simp only [evE]) hst hb (by decide) (by decide)
      exact ⟨s5, decide (0 < r5), e_tup (ws := [.v (.str nm), .v (.bl (decide (0 < r5)))]) (l_cons (by simp only [evE]; rfl) (l_cons (e_cmp (y := .v (.int 0)) k5 (by simp only [evE]) rfl) l_nil)) (by show 2 ≤ lim; decide) rfl, o5⟩)
  have hF : (s4.cells rest).length = rest.length + 2 := by simp [Sm.cells]
  have hdic := dic_shape (C := ⟨callF T g (d + 3), g⟩) (env := [some (.c 1), some (.v (.int M)), some (.v (.int 4)), o3', some (.v (.lst (ks.map pK))), some (.v (.lst (nms.map P.str))), some (.c (rest.length + 2)), o7', o8']) (F := s4.cells rest) (ks := ks) (cs := cs) rfl (by rw [hF]; rfl)
  have hkl : ks.length = M := by
    have := congrArg List.length n4
    simp only [List.length_map, List.length_take] at this
    omega
  have hcl : cs.length ≤ 4 := by
    have := congrArg List.length n3
    simp only [List.length_map, List.length_take, List.length_drop] at this
    omega
  refine ⟨s4, ks, cs, ?_, o4.mono (by omega), ?_, hkl, hcl⟩
  · rw [call_ret hT (as := [.c 1, .v (.int M), .v (.int 4)]) rfl (w := .c ((s4.cells rest).length + 1)) (S1 := s4.cells rest ++ [.dead, shapeCell ks cs]) ?_]
    · unfold fnEnd
      have hk : (s.cells rest).length = (s4.cells rest).length := by simp [Sm.cells]
      have gl : (s4.cells rest ++ [.dead, shapeCell ks cs])[(s4.cells rest).length + 1]? = some (shapeCell ks cs) := by simp
      simp only [hk, gl, view_shape]
      rw [if_neg (by omega), if_pos trivial, hF]
      congr 2
      rw [← hF, List.take_left']
      · rfl
      · rfl
    · refine x_cons (S1 := s1.cells (rest ++ [Cell.lst []])) (e := [some (.c 1), some (.v (.int M)), some (.v (.int 4)), none, none, some (.v (.lst (nms.map P.str))), some (.c (rest.length + 2)), none, none]) (x_par (ws := [.v (.lst (nms.map P.str)), .c (rest.length + 2)]) (l_cons (e_call (l_cons (x := .c 1) (by simp only [evE]; rfl) (l_cons (x := .v (.int ((M + 4 : Nat) : Int))) (e_bin (x := .v (.int M)) (y := .v (.int 4)) (by simp only [evE]; rfl) (by simp only [evE]; rfl) rfl) l_nil)) hgn k1) (l_cons (e_lstT l_nil (by decide) ?_) l_nil)) rfl) ?_
      · show (if (Cell.lst []).lows (s1.cells rest).length = true then R.ok (W.c (s1.cells rest).length, s1.cells rest ++ [.lst []]) else .no) = _
        rw [if_pos (show (Cell.lst []).lows (s1.cells rest).length = true from rfl), show (s1.cells rest).length = rest.length + 2 by simp [Sm.cells]]
        rfl
      · refine x_cons (x_for (xs := ((nms.drop M).take (1 + r.toNat)).map fun x => .v (.str x)) (S1 := s2.cells (rest ++ [Cell.lst []])) (ii_it (e_slc (x := .v (.lst (nms.map P.str))) (i := some (M : Int)) (j := some ((M + (1 + r.toNat) : Nat) : Int)) (S3 := s2.cells (rest ++ [Cell.lst []])) (by simp only [evE]; rfl) (o_cons (by simp only [evE]; rfl)) (o_cons (e_bin (x := .v (.int ((M : Int) + 1))) (e_bin (x := .v (.int M)) (y := .v (.int 1)) (by simp only [evE]; rfl) (by simp only [evE]) rfl) k2 ?_)) slc_lst) ?_) k3) (x_cons (x_set k4) (x_ret_cons (x_ret hdic)))
        · show R.ok (W.v (.int ((M : Int) + 1 + r)), _) = _
          congr 4
          omega
        · rw [cut_mid _ _ _ (by omega) (by rw [List.length_map]; omega), ← List.map_drop, ← List.map_take, show M + (1 + r.toNat) - M = 1 + r.toNat by omega]
          simp only [itemsOf, List.map_map]
          rfl
  · have hsub : (ks.map (·.1) ++ cs.map (·.name)).Sublist nms := by
      rw [n4, n3]
      have : (nms.take M ++ (nms.drop M).take (1 + r.toNat)).Sublist (nms.take M ++ nms.drop M) := (List.Sublist.refl _).append (List.take_sublist _ _)
      rwa [List.take_append_drop] at this
    exact ⟨n1.sublist hsub, fun x hx => g1 x (hsub.subset hx), fun c hc => by rw [n4]; exact (h3 c hc).1, fun c hc => by rw [n4]; exact (h3 c hc).2.1, fun c hc => (h3 c hc).2.2⟩
end
end LS

set_option Elab.async false
set_option linter.all false
set_option maxRecDepth 100000
/-! LW1: what is wanted behind a run of the small language. -/
namespace LS
open PySem L2
abbrev XQ := Str → List (Str × P) → Cells → Prop
def WX {α : Type} (m : R α) (Q : α → Prop) (E : XQ) : Prop := match m with
  | .ok a => Q a
  | .ex c fs S => E c fs S
  | .no => False
section
variable {α β : Type} {Q : α → Prop} {E : XQ}
theorem WX_cg {m m' : R α} (h : m = m') : WX m Q E = WX m' Q E := by rw [h]
theorem bind_cg {m m' : R α} {f : α → R β} (h : m = m') : R.bind m f = R.bind m' f := by rw [h]
@[simp] theorem WX_ok {a : α} : WX (.ok a) Q E = Q a := id rfl
@[simp] theorem WX_ex {c : Str} {fs : List (Str × P)} {S : Cells} : WX (.ex c fs S : R α) Q E = E c fs S := id rfl
@[simp] theorem b_ok {a : α} {f : α → R β} : (R.ok a).bind f = f a := id rfl
@[simp] theorem b_ex {c : Str} {fs : List (Str × P)} {S : Cells} {f : α → R β} : (R.ex c fs S).bind f = .ex c fs S := id rfl
@[simp] theorem b_no {f : α → R β} : (R.no).bind f = .no := id rfl
@[simp] theorem WX_no : WX (.no : R α) Q E = False := id rfl
@[simp] theorem b_b {γ : Type} {m : R α} {f : α → R β} {g : β → R γ} : (m.bind f).bind g = m.bind fun a => (f a).bind g := by
  cases m <;> rfl
theorem WX_bind {m : R β} {f : β → R α} : WX (m.bind f) Q E = WX m (fun a => WX (f a) Q E) E := by
  cases m <;> rfl
theorem WX_if {c : Prop} [Decidable c] {m n : R α} : WX (if c then m else n) Q E = ((c → WX m Q E) ∧ (¬ c → WX n Q E)) := by
  by_cases h : c <;> simp [h]
@[simp] theorem ifno {c : Prop} [Decidable c] {m : R α} (h : c) : (if c then m else .no) = m := if_pos h
theorem WX_mono {m : R α} {Q' : α → Prop} (h : WX m Q E) (k : ∀ a, Q a → Q' a) : WX m Q' E := by
  cases m
  · exact k _ h
  · exact h
  · exact h
theorem WX_eq {m : R α} (h : WX m Q fun _ _ _ => False) : ∃ a, m = .ok a ∧ Q a := by
  cases m
  · exact ⟨_, rfl, h⟩
  · exact h.elim
  · exact h.elim
theorem WX_of {m : R α} {a : α} (h : m = .ok a) (k : Q a) : WX m Q E := by rw [h]; exact k
end
/-! statements -/
structure Po where
  nx : Env → Cells → Prop
  rt : W → Cells → Prop
  bk : Env → Cells → Prop
  ct : Env → Cells → Prop
  ex : Str → List (Str × P) → Env → Cells → Prop
def WS (r : RS) (Z : Po) : Prop := match r with
  | .nx e s => Z.nx e s
  | .ret w s => Z.rt w s
  | .bk e s => Z.bk e s
  | .ct e s => Z.ct e s
  | .ex c fs e s => Z.ex c fs e s
  | .no => False
section
variable {Z : Po}
theorem WS_cg {m m' : RS} (h : m = m') : WS m Z = WS m' Z := by rw [h]
theorem lift_cg {α : Type} {env : Env} {m m' : R α} {k : α → RS} (h : m = m') : lift env m k = lift env m' k := by rw [h]
@[simp] theorem WS_nx {e : Env} {s : Cells} : WS (.nx e s) Z = Z.nx e s := id rfl
@[simp] theorem WS_rt {e : W} {s : Cells} : WS (.ret e s) Z = Z.rt e s := id rfl
@[simp] theorem WS_bk {e : Env} {s : Cells} : WS (.bk e s) Z = Z.bk e s := id rfl
@[simp] theorem WS_ct {e : Env} {s : Cells} : WS (.ct e s) Z = Z.ct e s := id rfl
@[simp] theorem WS_ex {c : Str} {fs : List (Str × P)} {e : Env} {s : Cells} : WS (.ex c fs e s) Z = Z.ex c fs e s := id rfl
@[simp] theorem l_ok {α : Type} {env : Env} {a : α} {k : α → RS} : lift env (.ok a) k = k a := id rfl
@[simp] theorem l_ex {α : Type} {env : Env} {k : α → RS} {c : Str} {fs : List (Str × P)} {S : Cells} : lift env (.ex c fs S) k = .ex c fs env S := id rfl
theorem WS_lift {α : Type} {env : Env} {m : R α} {k : α → RS} : WS (lift env m k) Z = WX m (fun a => WS (k a) Z) fun c fs S => Z.ex c fs env S := by
  cases m <;> rfl
end
/-- what stands behind the first statement -/
def seqS (r : RS) (k : Env → Cells → RS) : RS := match r with
  | .nx e s => k e s
  | q => q
theorem seqS_cg {m m' : RS} {k : Env → Cells → RS} (h : m = m') : seqS m k = seqS m' k := by rw [h]
section
variable {Z : Po} {k : Env → Cells → RS}
@[simp] theorem sq_nx {e : Env} {s : Cells} : seqS (.nx e s) k = k e s := id rfl
@[simp] theorem sq_rt {e : W} {s : Cells} : seqS (.ret e s) k = .ret e s := id rfl
@[simp] theorem sq_bk {e : Env} {s : Cells} : seqS (.bk e s) k = .bk e s := id rfl
@[simp] theorem sq_ct {e : Env} {s : Cells} : seqS (.ct e s) k = .ct e s := id rfl
@[simp] theorem sq_ex {c : Str} {fs : List (Str × P)} {e : Env} {s : Cells} : seqS (.ex c fs e s) k = .ex c fs e s := id rfl
@[simp] theorem sq_sq {r : RS} {k2 : Env → Cells → RS} : seqS (seqS r k) k2 = seqS r fun e s => seqS (k e s) k2 := by
  cases r <;> rfl
@[simp] theorem sq_lift {α : Type} {env : Env} {m : R α} {f : α → RS} : seqS (lift env m f) k = lift env m fun a => seqS (f a) k := by
  cases m <;> rfl
theorem WS_seq {r : RS} : WS (seqS r k) Z = WS r ⟨fun e s => WS (k e s) Z, Z.rt, Z.bk, Z.ct, Z.ex⟩ := by
  cases r <;> rfl
theorem lift_bind {α β : Type} {env : Env} {m : R α} {f : α → R β} {k : β → RS} : lift env (m.bind f) k = lift env m fun a => lift env (f a) k := by
  cases m <;> rfl
end
def WS.mono {r : RS} {Z Z' : Po} (h : WS r Z) (h1 : ∀ e s, Z.nx e s → Z'.nx e s) (h2 : ∀ e s, Z.rt e s → Z'.rt e s) (h3 : ∀ e s, Z.bk e s → Z'.bk e s) (h4 : ∀ e s, Z.ct e s → Z'.ct e s) (h5 : ∀ c fs e s, Z.ex c fs e s → Z'.ex c fs e s) : WS r Z' := by
  cases r
  · exact h1 _ _ h
  · exact h2 _ _ h
  · exact h3 _ _ h
  · exact h4 _ _ h
  · exact h5 _ _ _ _ h
  · exact h
/-! one step each -/
section
variable {C : Cn} {env : Env} {S : Cells} {a b c l t it lo hi i e : E} {o o' : BO} {p : P} {x f m : Str} {n : Nat}
@[simp] theorem ev_var : evE C (.var n) env S = match env[n]? with | some (some w) => .ok (w, S) | _ => .no := by simp only [evE] <;> rfl
@[simp] theorem ev_lit : evE C (.lit p) env S = .ok (.v p, S) := by simp only [evE]
@[simp] theorem ev_glo : evE C (.glo x) env S = match C.g.glo x with | some p => .ok (.v p, S) | none => .no := by simp only [evE] <;> rfl
@[simp] theorem ev_bin : evE C (.bin o a b) env S = (evE C a env S).bind fun q => (evE C b env q.2).bind fun q2 => binOp o q.1 q2.1 q2.2 := by simp only [evE]
@[simp] theorem ev_cmp {o : CO} : evE C (.cmp o a b) env S = (evE C a env S).bind fun q => (evE C b env q.2).bind fun q2 => cmpOp o q.1 q2.1 q2.2 := by simp only [evE]
def chnK (C : Cn) (o' : CO) (c : E) (env : Env) (y : W) (z : W × Cells) : R (W × Cells) := match z.1 with
    | .v (.bl true) => (evE C c env z.2).bind fun q3 => cmpOp o' y q3.1 q3.2
    | .v (.bl false) => .ok (.v (.bl false), z.2)
    | _ => .no
@[simp] theorem ev_chn {o o' : CO} : evE C (.chn o o' a b c) env S = (evE C a env S).bind fun q => (evE C b env q.2).bind fun q2 => (cmpOp o q.1 q2.1 q2.2).bind fun z => chnK C o' c env q2.1 z := by
  simp only [evE] <;> rfl
@[simp] theorem chnK_bl {o' : CO} {y : W} {k : Bool} : chnK C o' c env y (.v (.bl k), S) = if k = true then (evE C c env S).bind fun q3 => cmpOp o' y q3.1 q3.2 else .ok (.v (.bl false), S) := by
  cases k <;> rfl
@[simp] theorem ev_and : evE C (.and a b) env S = (evE C a env S).bind fun q => andOp q (fun S => evE C b env S) true := by simp only [evE]
@[simp] theorem ev_or : evE C (.or a b) env S = (evE C a env S).bind fun q => andOp q (fun S => evE C b env S) false := by simp only [evE]
@[simp] theorem ev_not : evE C (.not a) env S = (testOf (evE C a env S)).bind fun q => .ok (.v (.bl (!q.1)), q.2) := by simp only [evE]
@[simp] theorem ev_ite : evE C (.ite t a b) env S = (testOf (evE C t env S)).bind fun q => if q.1 = true then evE C a env q.2 else evE C b env q.2 := by simp only [evE]
@[simp] theorem ev_tup : evE C (.tup l) env S = (evL C l env S).bind fun q => if q.1.length ≤ lim then (freezeL q.1 q.2).bind fun q => .ok (.v (.tup q.1), q.2) else .no := by simp only [evE]
@[simp] theorem ev_lstT : evE C (.lst true l) env S = (evL C l env S).bind fun q => if q.1.length ≤ lim then alloc (.lst q.1) q.2 else .no := by simp only [evE]
@[simp] theorem ev_lstF : evE C (.lst false l) env S = (evL C l env S).bind fun q => if q.1.length ≤ lim then (freezeL q.1 q.2).bind fun q => .ok (.v (.lst q.1), q.2) else .no := by simp only [evE]
@[simp] theorem ev_sub : evE C (.sub a i) env S = (evE C a env S).bind fun q => (evE C i env q.2).bind fun q2 => subOp q.1 q2.1 q2.2 := by simp only [evE]
@[simp] theorem ev_slc : evE C (.slc a lo hi) env S = (evE C a env S).bind fun q => (evO C lo env q.2).bind fun q2 => (evO C hi env q2.2).bind fun q3 => slcOp q.1 q2.1 q3.1 q3.2 := by simp only [evE]
@[simp] theorem ev_att : evE C (.att a f) env S = (evE C a env S).bind fun q => attOp C.g.fld q.1 f q.2 := by simp only [evE]
@[simp] theorem ev_call : evE C (.call f l) env S = (evL C l env S).bind fun q => if C.g.fn f = true then C.call f q.1 q.2 else .no := by simp only [evE]
@[simp] theorem ev_make : evE C (.make f l) env S = (evL C l env S).bind fun q => if C.g.fn f = true then C.call f q.1 q.2 else .no := by simp only [evE]
def methK (C : Cn) (m : Str) (l : E) (env : Env) (q : W × Cells) : R (W × Cells) := match clsOf m q.1 q.2 with
    | some c => if C.g.met c m = true then (evL C l env q.2).bind fun q2 => C.call (c ++ "." ++ m) (q.1 :: q2.1) q2.2 else .no
    | none => .no
@[simp] theorem ev_meth : evE C (.meth a m l) env S = (evE C a env S).bind fun q => methK C m l env q := by simp only [evE] <;> rfl
@[simp] theorem methK_obj {cl : Str} {fs : List (Str × P)} (h : (fs.lookup m).isNone = true) (hg : C.g.met cl m = true) : methK C m l env (.v (.obj cl fs), S) = (evL C l env S).bind fun q2 => C.call (cl ++ "." ++ m) (.v (.obj cl fs) :: q2.1) q2.2 := by
  simp only [methK, clsOf, if_pos h, if_pos hg]
@[simp] theorem ev_bm {m : BM} : evE C (.bm m a l) env S = (evE C a env S).bind fun q => if bmTy m q.1 q.2 = true then (evL C l env q.2).bind fun q2 => bmOp m q.1 q2.1 q2.2 else .no := by simp only [evE]
def bfK (f : BF) (q : List W × Cells) : R (W × Cells) := match viewL q.1 q.2 with
    | some ps => match bfOp f ps with
      | some p => .ok (.v p, q.2)
      | none => .no
    | none => .no
@[simp] theorem ev_bf {f : BF} : evE C (.bf f l) env S = (evL C l env S).bind fun q => bfK f q := by simp only [evE] <;> rfl
def listCK (q : W × Cells) : R (W × Cells) := match q.1.view q.2 with
    | some (.lst xs) => alloc (.lst (xs.map .v)) q.2
    | some (.tup xs) => alloc (.lst (xs.map .v)) q.2
    | some (.scr ns) => alloc (.lst (ns.map fun i => .v (.int i))) q.2
    | _ => .no
@[simp] theorem ev_listC : evE C (.listC a) env S = (evE C a env S).bind fun q => listCK q := by simp only [evE] <;> rfl
def listItemsK (cell : Bool) (q : W × Cells) : R (W × Cells) := match q.1.view q.2 with
    | some (.dct kvs) => if cell = true then alloc (.lst ((kvs.map fun z => .tup [kP z.1, z.2]).map .v)) q.2 else .ok (.v (.lst (kvs.map fun z => .tup [kP z.1, z.2])), q.2)
    | _ => .no
@[simp] theorem ev_listItems {cell : Bool} : evE C (.listItems cell a) env S = (evE C a env S).bind fun q => listItemsK cell q := by simp only [evE] <;> rfl
@[simp] theorem ev_mx : evE C (.mx l) env S = (evL C l env S).bind fun q => bfK .max2 q := by simp only [evE] <;> rfl
@[simp] theorem max_int {i j : Int} : bfOp .max2 [.int i, .int j] = some (.int (if j > i then j else i)) := id rfl
@[simp] theorem dict_dct {kvs : List (Key × P)} : bfOp .dict [.dct kvs] = some (.dct kvs) := id rfl
@[simp] theorem list_dct {kvs : List (Key × P)} : bfOp .list [.dct kvs] = some (.lst (kvs.map fun z => kP z.1)) := id rfl
def hasR (neg : Bool) (r : W × Cells) : R (W × Cells) := match r.1 with
        | .v (.bl k) => .ok (.v (.bl (if neg = true then !k else k)), r.2)
        | _ => .no
def hasK (C : Cn) (neg : Bool) (x : W) (q2 : W × Cells) : R (W × Cells) := match clsOf "__contains__" q2.1 q2.2 with
    | some c => if C.g.met c "__contains__" = true then (C.call (c ++ "." ++ "__contains__") [q2.1, x] q2.2).bind fun r => hasR neg r
      else .no
    | none => .no
@[simp] theorem ev_has {neg : Bool} : evE C (.has neg a b) env S = (evE C a env S).bind fun q => (evE C b env q.2).bind fun q2 => hasK C neg q.1 q2 := by simp only [evE] <;> rfl
@[simp] theorem hasR_b {neg k : Bool} : hasR neg (.v (.bl k), S) = .ok (.v (.bl (if neg = true then !k else k)), S) := id rfl
@[simp] theorem hasK_obj {neg : Bool} {x : W} {cl : Str} {fs : List (Str × P)} (h : (fs.lookup (Str.ofString "__contains__")).isNone = true) (hg : C.g.met cl "__contains__" = true) : hasK C neg x (.v (.obj cl fs), S) = (C.call (cl ++ "." ++ "__contains__") [.v (.obj cl fs), x] S).bind fun r => hasR neg r := by
  simp only [hasK, clsOf, if_pos h, if_pos hg]
@[simp] theorem ev_fstr : evE C (.fstr l) env S = (evJ C l env S Str.empty).bind fun q => .ok (.v (.str q.1), q.2) := by simp only [evE]
def dicK (cell : Bool) (D : Nat) (q : List (Key × W) × Cells) : R (W × Cells) := match q.2[D]? with
    | some (.dct []) => if 15 < q.1.length then .no else (write D (.dct (q.1.foldl (fun acc z => setK acc z.1 z.2) [])) q.2).bind fun S2 => finC cell D S2
    | _ => .no
@[simp] theorem ev_dic {cell : Bool} : evE C (.dic cell l) env S = (evK C l env (S ++ [.dct []])).bind fun q => dicK cell S.length q := by
  simp only [evE] <;> rfl
@[simp] theorem vk_nil : evK C .nil env S = .ok ([], S) := by simp only [evK]
def kvK (k v : W) (q : List (Key × W) × Cells) : R (List (Key × W) × Cells) := match k with
    | .v p => match keyOf p with
      | some k => (freeze q.2 v).bind fun z => .ok ((k, .v z.1) :: q.1, z.2)
      | none => .no
    | _ => .no
@[simp] theorem vk_kv : evK C (.kv a b l) env S = (evE C a env S).bind fun q => (evE C b env q.2).bind fun q2 => (evK C l env q2.2).bind fun q3 => kvK q.1 q2.1 q3 := by
  simp only [evK] <;> rfl
@[simp] theorem kvK_s {x : Str} {p : P} {kvs : List (Key × W)} : kvK (.v (.str x)) (.v p) (kvs, S) = .ok ((.inr x, .v p) :: kvs, S) := id rfl
@[simp] theorem vl_nil : evL C .nil env S = .ok ([], S) := by simp only [evL]
@[simp] theorem vl_cons : evL C (.cons a l) env S = (evE C a env S).bind fun q => (evL C l env q.2).bind fun q2 => .ok (q.1 :: q2.1, q2.2) := by simp only [evL]
def starK (C : Cn) (l : E) (env : Env) (q : W × Cells) : R (List W × Cells) := match q.1.view q.2 with
    | some (.lst xs) => (evL C l env q.2).bind fun q2 => .ok (xs.map .v ++ q2.1, q2.2)
    | some (.tup xs) => (evL C l env q.2).bind fun q2 => .ok (xs.map .v ++ q2.1, q2.2)
    | some (.dct kvs) => (evL C l env q.2).bind fun q2 => .ok ((kvs.map fun z => .v (kP z.1)) ++ q2.1, q2.2)
    | _ => .no
@[simp] theorem vl_star : evL C (.star a l) env S = (evE C a env S).bind fun q => starK C l env q := by simp only [evL] <;> rfl
@[simp] theorem vi_it : evI C (.it a) env S = (evE C a env S).bind fun q => (itemsOf q.1 q.2).bind fun z => .ok (z, q.2) := by simp only [evI]
@[simp] theorem vi_rng : evI C (.rng l) env S = (evL C l env S).bind fun q => (rngOf q.1).bind fun z => .ok (z, q.2) := by simp only [evI]
def valsK (q : W × Cells) : R (Iter × Cells) := match q.1 with
    | .v (.dct kvs) => .ok (.st (kvs.map fun z => .v z.2), q.2)
    | _ => .no
@[simp] theorem vi_vals : evI C (.vals a) env S = (evE C a env S).bind fun q => valsK q := by simp only [evI] <;> rfl
@[simp] theorem valsK_d {kvs : List (Key × P)} : valsK (.v (.dct kvs), S) = .ok (.st ((kvs.map fun z => z.2).map .v), S) := by
  simp only [valsK, List.map_map] <;> rfl
def itemsK (q : W × Cells) : R (Iter × Cells) := match q.1 with
    | .v (.dct kvs) => .ok (.st (kvs.map fun z => .v (.tup [kP z.1, z.2])), q.2)
    | _ => .no
@[simp] theorem vi_items : evI C (.items a) env S = (evE C a env S).bind fun q => itemsK q := by simp only [evI] <;> rfl
@[simp] theorem itemsK_d {kvs : List (Key × P)} : itemsK (.v (.dct kvs), S) = .ok (.st ((kvs.map fun z => .tup [kP z.1, z.2]).map .v), S) := by
  simp only [itemsK, List.map_map] <;> rfl
@[simp] theorem vj_nil {acc : Str} : evJ C .nil env S acc = .ok (acc, S) := by simp only [evJ]
def jStarK (C : Cn) (l : E) (env : Env) (acc : Str) (q : W × Cells) : R (Str × Cells) := match q.1 with
    | .v (.str s) => if acc.length + s.length ≤ lim then evJ C l env q.2 (acc ++ s) else .no
    | _ => .no
@[simp] theorem vj_star {acc : Str} : evJ C (.star a l) env S acc = (evE C a env S).bind fun q => jStarK C l env acc q := by simp only [evJ] <;> rfl
@[simp] theorem jStarK_s {acc s : Str} : jStarK C l env acc (.v (.str s), S) = if acc.length + s.length ≤ lim then evJ C l env S (acc ++ s) else .no := id rfl
def jConsK (C : Cn) (l : E) (env : Env) (acc : Str) (q : W × Cells) : R (Str × Cells) := match q.1 with
    | .v (.str s) => if acc.length + s.length ≤ lim then evJ C l env q.2 (acc ++ s) else .no
    | .v (.int i) => if i.natAbs.log2 < 1920 ∧ acc.length + (Str.ofString (toString i)).length ≤ lim then evJ C l env q.2 (acc ++ Str.ofString (toString i)) else .no
    | _ => .no
@[simp] theorem vj_cons {acc : Str} : evJ C (.cons a l) env S acc = (evE C a env S).bind fun q => jConsK C l env acc q := by simp only [evJ] <;> rfl
@[simp] theorem jConsK_s {acc s : Str} : jConsK C l env acc (.v (.str s), S) = if acc.length + s.length ≤ lim then evJ C l env S (acc ++ s) else .no := id rfl
@[simp] theorem vo_nil : evO C .nil env S = .ok (none, S) := by simp only [evO]
def optK (q : W × Cells) : R (Option Int × Cells) := match q.1 with
    | .v (.int i) => .ok (some i, q.2)
    | _ => .no
@[simp] theorem vo_cons : evO C (.cons a l) env S = (evE C a env S).bind fun q => optK q := by simp only [evO] <;> rfl
@[simp] theorem optK_i {i : Int} : optK (.v (.int i), S) = .ok (some i, S) := id rfl
@[simp] theorem vif_nil : evIf C .nil env S = .ok (true, S) := by simp only [evIf]
@[simp] theorem vif_cons : evIf C (.cons a l) env S = testOf (evE C a env S) := by simp only [evIf]
/-! values -/
@[simp] theorem t_bind {α : Type} {m : R α} {f : α → R (W × Cells)} : testOf (m.bind f) = m.bind fun a => testOf (f a) := by
  cases m <;> rfl
@[simp] theorem t_blk {k : Bool} : testOf (.ok (.v (.bl k), S)) = .ok (k, S) := id rfl
@[simp] theorem t_non : testOf (.ok (.v .non, S)) = .ok (false, S) := id rfl
@[simp] theorem t_if {c : Prop} [Decidable c] {m n : R (W × Cells)} : testOf (if c then m else n) = if c then testOf m else testOf n := by
  split <;> rfl
theorem t_ex {c : Str} {fs : List (Str × P)} : testOf (.ex c fs S) = .ex c fs S := rfl
@[simp] theorem t_no : testOf .no = .no := id rfl
@[simp] theorem and_bl {k o : Bool} {f : Cells → R (W × Cells)} : andOp (.v (.bl k), S) f o = if k = o then f S else .ok (.v (.bl k), S) := id rfl
@[simp] theorem bfK_1 {f : BF} {p : P} : bfK f ([.v p], S) = match bfOp f [p] with | some r => .ok (.v r, S) | none => .no := id rfl
@[simp] theorem bfK_2 {f : BF} {p q : P} : bfK f ([.v p, .v q], S) = match bfOp f [p, q] with | some r => .ok (.v r, S) | none => .no := id rfl
@[simp] theorem isStr_str {s : Str} : bfOp .isStr [.str s] = some (.bl true) := id rfl
@[simp] theorem len_str {s : Str} (h : s.length ≤ lim) : bfOp .len [.str s] = some (.int s.length) := by simp only [bfOp, if_pos h]
@[simp] theorem len_lst {s : List P} : bfOp .len [.lst s] = some (.int s.length) := id rfl
@[simp] theorem len_tup {s : List P} : bfOp .len [.tup s] = some (.int s.length) := id rfl
@[simp] theorem len_dct {s : List (Key × P)} : bfOp .len [.dct s] = some (.int s.length) := id rfl
@[simp] theorem int_int {s : Int} : bfOp .int [.int s] = some (.int s) := id rfl
@[simp] theorem list_lst {s : List P} : bfOp .list [.lst s] = some (.lst s) := id rfl
@[simp] theorem list_tup {s : List P} : bfOp .list [.tup s] = some (.lst s) := id rfl
theorem cmpv {o : CO} {x y : P} : cmpOp o (.v x) (.v y) S = match cmpP o x y with | some b => .ok (.v (.bl b), S) | none => .no := rfl
@[simp] theorem lt_int {x y : Int} : cmpOp .lt (.v (.int x)) (.v (.int y)) S = .ok (.v (.bl (decide (x < y))), S) := id rfl
@[simp] theorem le_int {x y : Int} : cmpOp .le (.v (.int x)) (.v (.int y)) S = .ok (.v (.bl (decide (x ≤ y))), S) := id rfl
@[simp] theorem gt_int {x y : Int} : cmpOp .gt (.v (.int x)) (.v (.int y)) S = .ok (.v (.bl (decide (y < x))), S) := id rfl
@[simp] theorem ge_int {x y : Int} : cmpOp .ge (.v (.int x)) (.v (.int y)) S = .ok (.v (.bl (decide (y ≤ x))), S) := id rfl
@[simp] theorem in_v {x y : P} : cmpOp .in_ (.v x) (.v y) S = match inP x y with | some b => .ok (.v (.bl b), S) | none => .no := id rfl
@[simp] theorem nin_v {x y : P} : cmpOp .nin (.v x) (.v y) S = match inP x y with | some b => .ok (.v (.bl (!b)), S) | none => .no := by
  simp only [cmpOp, W.view, cmpP]
  cases inP x y <;> rfl
@[simp] theorem add_int {x y : Int} : binOp .add (.v (.int x)) (.v (.int y)) S = .ok (.v (.int (x + y)), S) := id rfl
@[simp] theorem sub_int {x y : Int} : binOp .sub (.v (.int x)) (.v (.int y)) S = .ok (.v (.int (x - y)), S) := id rfl
@[simp] theorem add_str {x y : Str} : binOp .add (.v (.str x)) (.v (.str y)) S = if x.length + y.length ≤ lim then .ok (.v (.str (x ++ y)), S) else .no := id rfl
@[simp] theorem add_lst {x y : List P} : binOp .add (.v (.lst x)) (.v (.lst y)) S = if x.length + y.length ≤ lim then .ok (.v (.lst (x ++ y)), S) else .no := id rfl
@[simp] theorem sub_vv {x y : P} : subOp (.v x) (.v y) S = match ixP x y with | some p => .ok (.v p, S) | none => .no := by
  simp only [subOp]; cases ixP x y <;> rfl
@[simp] theorem att_obj {fl : Str → Str → Bool} {cl f : Str} {fs : List (Str × P)} (h : fl cl f = true) : attOp fl (.v (.obj cl fs)) f S = match fs.lookup f with | some p => .ok (.v p, S) | none => .no := by
  simp only [attOp, h]; cases fs.lookup f <;> rfl
@[simp] theorem itm_lst {xs : List P} : itemsOf (.v (.lst xs)) S = .ok (.st (xs.map .v)) := id rfl
@[simp] theorem itm_tup {xs : List P} : itemsOf (.v (.tup xs)) S = .ok (.st (xs.map .v)) := id rfl
@[simp] theorem itm_str {s : Str} : itemsOf (.v (.str s)) S = .ok (.st ((s.cps.toList.map fun c => .str ⟨#[c]⟩).map .v)) := by
  simp only [itemsOf, List.map_map] <;> rfl
@[simp] theorem itm_dct {kvs : List (Key × P)} : itemsOf (.v (.dct kvs)) S = .ok (.st ((kvs.map fun q => kP q.1).map .v)) := by
  simp only [itemsOf, List.map_map] <;> rfl
@[simp] theorem kP_r {s : Str} : kP (.inr s) = .str s := id rfl
@[simp] theorem kP_l {s : Int} : kP (.inl s) = .int s := id rfl
def starV (C : Cn) (l : E) (env : Env) (S : Cells) : Option P → R (List W × Cells)
  | some (.lst xs) => (evL C l env S).bind fun q2 => .ok (xs.map .v ++ q2.1, q2.2)
  | some (.tup xs) => (evL C l env S).bind fun q2 => .ok (xs.map .v ++ q2.1, q2.2)
  | some (.dct kvs) => (evL C l env S).bind fun q2 => .ok ((kvs.map fun z => .v (kP z.1)) ++ q2.1, q2.2)
  | _ => .no
@[simp] theorem starK_eq {w : W} : starK C l env (w, S) = starV C l env S (w.view S) := by
  simp only [starK, starV]
@[simp] theorem starV_lst {xs : List P} : starV C l env S (some (.lst xs)) = (evL C l env S).bind fun q2 => .ok (xs.map .v ++ q2.1, q2.2) := id rfl
@[simp] theorem starV_tup {xs : List P} : starV C l env S (some (.tup xs)) = (evL C l env S).bind fun q2 => .ok (xs.map .v ++ q2.1, q2.2) := id rfl
@[simp] theorem starV_dct {kvs : List (Key × P)} : starV C l env S (some (.dct kvs)) = (evL C l env S).bind fun q2 => .ok ((kvs.map fun z => kP z.1).map .v ++ q2.1, q2.2) := by
  simp only [starV, List.map_map] <;> rfl
@[simp] theorem listItemsK_d {kvs : List (Key × P)} : listItemsK false (.v (.dct kvs), S) = .ok (.v (.lst (kvs.map fun z => .tup [kP z.1, z.2])), S) := id rfl
@[simp] theorem listItemsK_T {kvs : List (Key × P)} : listItemsK true (.v (.dct kvs), S) = alloc (.lst ((kvs.map fun z => .tup [kP z.1, z.2]).map .v)) S := id rfl
@[simp] theorem frz_nil : freezeL [] S = .ok ([], S) := id rfl
@[simp] theorem frz_cons {p : P} {ws : List W} : freezeL (.v p :: ws) S = (freezeL ws S).bind fun q => .ok (p :: q.1, q.2) := id rfl
@[simp] theorem frz_app {ps : List P} {ws : List W} : freezeL (ps.map .v ++ ws) S = (freezeL ws S).bind fun q => .ok (ps ++ q.1, q.2) := by
  induction ps with
  | nil => cases h : freezeL ws S <;> simp [h]
  | cons p ps ih =>
    simp only [List.map_cons, List.cons_append, frz_cons, ih, b_b, b_ok]
@[simp] theorem frz_mapv {ps : List P} : freezeL (ps.map .v) S = .ok (ps, S) := by
  have := frz_app (ps := ps) (ws := []) (S := S)
  simpa using this
/-! cells -/
@[simp] theorem wr_eq {c : Cell} : write n c S = if c.lows n = true then .ok (S.set n c) else .no := id rfl
@[simp] theorem lo_lst {ws : List W} : Cell.lows n (.lst ws) = ws.all (refBelow n) := id rfl
@[simp] theorem lo_dct {kvs : List (Key × W)} : Cell.lows n (.dct kvs) = kvs.all fun q => refBelow n q.2 := id rfl
@[simp] theorem lo_ins {cl : Str} {fs : List (Str × W)} : Cell.lows n (.ins cl fs) = fs.all fun q => refBelow n q.2 := id rfl
@[simp] theorem rb_v {p : P} : refBelow n (.v p) = true := id rfl
@[simp] theorem rb_c {k : Nat} : refBelow n (.c k) = decide (k < n) := id rfl
@[simp] theorem lows_v {ps : List P} : (ps.map W.v).all (refBelow n) = true := by
  rw [List.all_map]; exact List.all_eq_true.mpr fun _ _ => rfl
def pushK (o : Option Cell) (n : Nat) (w : W) (S : Cells) : R Cells := match o with
  | some (.lst acc) => if acc.length < lim then write n (.lst (acc ++ [w])) S else .no
  | _ => .no
@[simp] theorem bm_app {w : W} : bmOp .append (.c n) [w] S = (pushK S[n]? n w S).bind fun S => .ok (.v .non, S) := id rfl
@[simp] theorem pushK_l {w : W} {acc : List W} : pushK (some (.lst acc)) n w S = if acc.length < lim then write n (.lst (acc ++ [w])) S else .no := id rfl
def extK (o : Option Cell) (n : Nat) (w : Option P) (S : Cells) : R Cells := match o, w with
  | some (.lst acc), some (.lst ps) => if acc.length + ps.length ≤ lim then write n (.lst (acc ++ ps.map .v)) S else .no
  | _, _ => .no
@[simp] theorem bm_ext {w : W} : bmOp .extend (.c n) [w] S = (extK S[n]? n (w.view S) S).bind fun S => .ok (.v .non, S) := by
  simp only [bmOp, extendOp]
  cases h1 : S[n]? with
  | none => rfl
  | some c => cases h2 : w.view S with
    | none => cases c <;> rfl
    | some p => cases c with
      | lst acc => cases p with
        | lst ps =>
          simp only [extK]
          split <;> rfl
        | _ => rfl
      | _ => rfl
@[simp] theorem extK_l {ps : List P} {acc : List W} : extK (some (.lst acc)) n (some (.lst ps)) S = if acc.length + ps.length ≤ lim then write n (.lst (acc ++ ps.map .v)) S else .no := id rfl
@[simp] theorem vw_v {p : P} : W.view S (.v p) = some p := id rfl
def vwK : Option Cell → Option P
  | some z => z.view
  | none => none
@[simp] theorem vw_c : W.view S (.c n) = vwK S[n]? := by
  simp only [W.view, vwK] <;> cases S[n]? <;> rfl
@[simp] theorem vwK_l {ws : List W} : vwK (some (.lst ws)) = (allP ws).map .lst := id rfl
@[simp] theorem vwK_d {ws : List (Key × W)} : vwK (some (.dct ws)) = (allKP ws).map .dct := id rfl
@[simp] theorem aP_nil : allP [] = some [] := id rfl
@[simp] theorem aP_cons {p : P} {ws : List W} : allP (.v p :: ws) = (allP ws).map (p :: ·) := id rfl
@[simp] theorem aP_app {ps : List P} {ws : List W} : allP (ps.map .v ++ ws) = (allP ws).map (ps ++ ·) := by
  induction ps with
  | nil => cases h : allP ws <;> simp [h]
  | cons p ps ih => simp only [List.map_cons, List.cons_append, aP_cons, ih, Option.map_map] <;> rfl
@[simp] theorem aP_map {ps : List P} : allP (ps.map .v) = some ps := by
  have := aP_app (ps := ps) (ws := [])
  simpa using this
@[simp] theorem cmp_vc {o : CO} {x : P} : cmpOp o (.v x) (.c n) S = match vwK S[n]? with | some y => cmpOp o (.v x) (.v y) S | none => .no := by
  simp only [cmpOp, vw_c, vw_v]
  all_goals (cases vwK S[n]? <;> rfl)
@[simp] theorem cmp_cv {o : CO} {x : P} : cmpOp o (.c n) (.v x) S = match vwK S[n]? with | some y => cmpOp o (.v y) (.v x) S | none => .no := by
  simp only [cmpOp, vw_c, vw_v]
  all_goals (cases vwK S[n]? <;> rfl)
@[simp] theorem cmp_cc {o : CO} {k : Nat} : cmpOp o (.c n) (.c k) S = match vwK S[n]?, vwK S[k]? with | some x, some y => cmpOp o (.v x) (.v y) S | _, _ => .no := by
  simp only [cmpOp, vw_c, vw_v]
  all_goals (cases vwK S[n]? <;> cases vwK S[k]? <;> rfl)
@[simp] theorem bin_vc {x : P} : binOp o (.v x) (.c n) S = match vwK S[n]? with | some y => binOp o (.v x) (.v y) S | none => .no := by
  simp only [binOp, vw_c, vw_v]
  cases vwK S[n]? with
  | none => cases o <;> cases x <;> rfl
  | some y => rfl
@[simp] theorem bin_cv {x : P} : binOp o (.c n) (.v x) S = match vwK S[n]? with | some y => binOp o (.v y) (.v x) S | none => .no := by
  simp only [binOp, vw_c, vw_v]
  cases vwK S[n]? with
  | none => cases o <;> cases x <;> rfl
  | some y => rfl
@[simp] theorem bfK_c {f : BF} : bfK f ([.c n], S) = match vwK S[n]? with | some y => bfK f ([.v y], S) | none => .no := by
  simp only [bfK, viewL, vw_c, vw_v]
  cases vwK S[n]? <;> rfl
def subC (o : Option Cell) (i : P) (S : Cells) : R (W × Cells) := match o, i with
    | some (.lst xs), .int i => match atI xs i with
      | some w => .ok (w, S)
      | none => .no
    | some (.dct kvs), k => match keyOf k with
      | some k => match getK kvs k with
        | some w => .ok (w, S)
        | none => .no
      | none => .no
    | _, _ => .no
@[simp] theorem sub_c {i : P} : subOp (.c n) (.v i) S = subC S[n]? i S := by
  simp only [subOp, subC] <;> rfl
@[simp] theorem subC_li {xs : List W} {i : Int} : subC (some (.lst xs)) (.int i) S = match atI xs i with | some w => .ok (w, S) | none => .no := id rfl
@[simp] theorem subC_ds {kvs : List (Key × W)} {x : Str} : subC (some (.dct kvs)) (.str x) S = match getK kvs (.inr x) with | some w => .ok (w, S) | none => .no := id rfl
@[simp] theorem subC_di {kvs : List (Key × W)} {x : Int} : subC (some (.dct kvs)) (.int x) S = match getK kvs (.inl x) with | some w => .ok (w, S) | none => .no := id rfl
def attC (fl : Str → Str → Bool) (o : Option Cell) (f : Str) (S : Cells) : R (W × Cells) := match o with
    | some (.ins c fs) => match fl c f, fs.lookup f with
      | true, some w => .ok (w, S)
      | _, _ => .no
    | _ => .no
@[simp] theorem att_c {fl : Str → Str → Bool} : attOp fl (.c n) f S = attC fl S[n]? f S := by
  simp only [attOp, attC] <;> rfl
@[simp] theorem attC_i {fl : Str → Str → Bool} {cl : Str} {fs : List (Str × W)} (h : fl cl f = true) : attC fl (some (.ins cl fs)) f S = match fs.lookup f with | some w => .ok (w, S) | none => .no := by
  simp only [attC, h]; cases fs.lookup f <;> rfl
@[simp] theorem lk_cons {α : Type} {k : Str} {v : α} {r : List (Str × α)} : List.lookup x ((k, v) :: r) = if x = k then some v else r.lookup x := by
  rw [List.lookup_cons]
  by_cases h : x = k
  · simp [h]
  · simp [h, show (x == k) = false by simpa using h]
@[simp] theorem listItemsK_c {cell : Bool} : listItemsK cell (.c n, S) = match vwK S[n]? with | some y => listItemsK cell (.v y, S) | none => .no := by
  simp only [listItemsK, vw_c, vw_v]
  all_goals (cases vwK S[n]? <;> rfl)
def isLstC : Option Cell → Bool
  | some (.lst _) => true
  | _ => false
@[simp] theorem isLstC_l {ws : List W} : isLstC (some (.lst ws)) = true := id rfl
@[simp] theorem ty_app : bmTy .append (.c n) S = isLstC S[n]? := by
  simp only [bmTy]; cases h : S[n]? with
  | none => rfl
  | some c => cases c <;> rfl
@[simp] theorem ty_ext : bmTy .extend (.c n) S = isLstC S[n]? := by
  simp only [bmTy]; cases h : S[n]? with
  | none => rfl
  | some c => cases c <;> rfl
@[simp] theorem ty_pop : bmTy .pop0 (.c n) S = isLstC S[n]? := by
  simp only [bmTy]; cases h : S[n]? with
  | none => rfl
  | some c => cases c <;> rfl
@[simp] theorem ty_join {x : Str} : bmTy .join (.v (.str x)) S = true := id rfl
@[simp] theorem ty_split {x : Str} : bmTy .split (.v (.str x)) S = true := id rfl
def finK (o : Option Cell) (D : Nat) (S : Cells) : R (W × Cells) := match vwK o with
  | some p => .ok (.v p, S.take D)
  | none => .no
@[simp] theorem fin_F {D : Nat} : finC false D S = finK S[D]? D S := by
  simp only [finC, finK, vwK]; cases S[D]? <;> rfl
@[simp] theorem finK_l {ws : List W} {D : Nat} : finK (some (.lst ws)) D S = match allP ws with | some ps => .ok (.v (.lst ps), S.take D) | none => .no := by
  simp only [finK, vwK_l]; cases allP ws <;> rfl
@[simp] theorem finK_d {ws : List (Key × W)} {D : Nat} : finK (some (.dct ws)) D S = match allKP ws with | some ps => .ok (.v (.dct ps), S.take D) | none => .no := by
  simp only [finK, vwK_d]; cases allKP ws <;> rfl
@[simp] theorem finK_i {cl : Str} {ws : List (Str × W)} {D : Nat} : finK (some (.ins cl ws)) D S = match allFP ws with | some ps => .ok (.v (.obj cl ps), S.take D) | none => .no := by
  simp only [finK, vwK, Cell.view]; cases allFP ws <;> rfl
@[simp] theorem aF_nil : allFP [] = some [] := id rfl
@[simp] theorem aF_cons {x : Str} {p : P} {ws : List (Str × W)} : allFP ((x, .v p) :: ws) = (allFP ws).map ((x, p) :: ·) := id rfl
def endK (own : Bool) (o : Option Cell) (k : Nat) (S : Cells) : R (W × Cells) := match o with
  | some c => match c.view with
    | some p => if own = true then .ok (.c k, S.take k ++ [c]) else .ok (.v p, S.take k)
    | none => .no
  | none => .no
@[simp] theorem end_c {own : Bool} {k : Nat} : fnEnd own k (.c n) S = if n < k then .ok (.c n, S.take k) else endK own S[n]? k S := by
  simp only [fnEnd, endK] <;> rfl
@[simp] theorem endK_l {ws : List W} {k : Nat} : endK false (some (.lst ws)) k S = match allP ws with | some ps => .ok (.v (.lst ps), S.take k) | none => .no := by
  simp only [endK, Cell.view]; cases allP ws <;> rfl
@[simp] theorem endK_d {ws : List (Key × W)} {k : Nat} : endK false (some (.dct ws)) k S = match allKP ws with | some ps => .ok (.v (.dct ps), S.take k) | none => .no := by
  simp only [endK, Cell.view]; cases allKP ws <;> rfl
@[simp] theorem endK_lT {ps : List P} {k : Nat} : endK true (some (.lst (ps.map .v))) k S = .ok (.c k, S.take k ++ [.lst (ps.map .v)]) := by
  simp only [endK, Cell.view, aP_map] <;> rfl
def setSubK (o : Option Cell) (n : Nat) (i : P) (w : W) (S : Cells) : R Cells := match o, i with
    | some (.lst xs), .int i => match ixN xs.length i with
      | some j => write n (.lst (xs.set j w)) S
      | none => .no
    | some (.dct kvs), p => match keyOf p with
      | some k => if kvs.length < lim then write n (.dct (setK kvs k w)) S else .no
      | none => .no
    | _, _ => .no
@[simp] theorem setSub_c {i : P} {w : W} : setSub (.c n) (.v i) w S = setSubK S[n]? n i w S := by
  simp only [setSub, setSubK] <;> rfl
@[simp] theorem setSubK_ds {kvs : List (Key × W)} {x : Str} {w : W} : setSubK (some (.dct kvs)) n (.str x) w S = if kvs.length < lim then write n (.dct (setK kvs (.inr x) w)) S else .no := id rfl
@[simp] theorem setSubK_di {kvs : List (Key × W)} {i : Int} {w : W} : setSubK (some (.dct kvs)) n (.int i) w S = if kvs.length < lim then write n (.dct (setK kvs (.inl i) w)) S else .no := id rfl
def setFldK (fl : Str → Str → Bool) (o : Option Cell) (n : Nat) (f : Str) (w : W) (S : Cells) : R Cells := match o with
    | some (.ins c fs) => if fs.length < 100 ∧ fl c f = true then write n (.ins c (setF f w fs)) S else .no
    | _ => .no
@[simp] theorem setFld_c {fl : Str → Str → Bool} {w : W} : setFld fl (.c n) f w S = setFldK fl S[n]? n f w S := by
  simp only [setFld, setFldK] <;> rfl
@[simp] theorem setFldK_i {fl : Str → Str → Bool} {cl : Str} {fs : List (Str × W)} {w : W} : setFldK fl (some (.ins cl fs)) n f w S = if fs.length < 100 ∧ fl cl f = true then write n (.ins cl (setF f w fs)) S else .no := id rfl
@[simp] theorem setF_nil {w : W} : setF f w [] = [(f, w)] := id rfl
@[simp] theorem setF_cons {w : W} {q : Str × W} {r : List (Str × W)} : setF f w (q :: r) = if q.1 = f then (q.1, w) :: r else q :: setF f w r := id rfl
/-! statements -/
@[simp] theorem xs_nil : exS C .nil env S = .nx env S := by simp only [exS]
@[simp] theorem xs_cons {u v : LS.S} : exS C (.cons u v) env S = seqS (exS C u env S) fun e s => exS C v e s := by
  simp only [exS, seqS] <;> rfl
@[simp] theorem xs_expr : exS C (.expr a) env S = lift env (evE C a env S) fun q => .nx env q.2 := by simp only [exS]
@[simp] theorem xs_ret : exS C (.ret a) env S = lift env (evE C a env S) fun q => .ret q.1 q.2 := by simp only [exS]
@[simp] theorem xs_pass : exS C .pass env S = .nx env S := by simp only [exS]
@[simp] theorem xs_brk : exS C .brk env S = .bk env S := by simp only [exS]
@[simp] theorem xs_cnt : exS C .cnt env S = .ct env S := by simp only [exS]
@[simp] theorem xs_set : exS C (.set n a) env S = lift env (evE C a env S) fun q => .nx (env.set n (some q.1)) q.2 := by simp only [exS]
def setTK (env : Env) (is : List Nat) (q : W × Cells) : RS := match setTg (.tup is) q.1 env with
    | some env => .nx env q.2
    | none => .no
@[simp] theorem xs_setT {is : List Nat} : exS C (.setT is a) env S = lift env (evE C a env S) fun q => setTK env is q := by simp only [exS] <;> rfl
def parK (env : Env) (is : List Nat) (q : List W × Cells) : RS := match setMany env is q.1 with
    | some env => .nx env q.2
    | none => .no
@[simp] theorem xs_par {is : List Nat} : exS C (.par is l) env S = lift env (evL C l env S) fun q => parK env is q := by simp only [exS] <;> rfl
@[simp] theorem xs_sub : exS C (.sub a i e) env S = lift env (evE C e env S) fun q => lift env (evE C a env q.2) fun q1 => lift env (evE C i env q1.2) fun q2 => lift env (setSub q1.1 q2.1 q.1 q2.2) fun S => .nx env S := by simp only [exS]
@[simp] theorem xs_fld : exS C (.fld a f e) env S = lift env (evE C e env S) fun q => lift env (evE C a env q.2) fun q1 => lift env (setFld C.g.fld q1.1 f q.1 q1.2) fun S => .nx env S := by simp only [exS]
@[simp] theorem xs_ite {u v : LS.S} : exS C (.ite t u v) env S = lift env (testOf (evE C t env S)) fun q => if q.1 = true then exS C u env q.2 else exS C v env q.2 := by
  simp only [exS, evT]
def forK (C : Cn) (tg : Tg) (b : LS.S) (env : Env) (q : Iter × Cells) : RS := match q.1 with
    | .st xs => forL (exS C b) tg xs env q.2
    | .cl n => forC (exS C b) tg n C.g.fu 0 env q.2
@[simp] theorem xs_for {tg : Tg} {u : LS.S} : exS C (.for_ tg it u) env S = lift env (evI C it env S) fun q => forK C tg u env q := by simp only [exS] <;> rfl
@[simp] theorem forK_st {tg : Tg} {u : LS.S} {xs : List W} : forK C tg u env (.st xs, S) = forL (exS C u) tg xs env S := id rfl
@[simp] theorem forK_cl {tg : Tg} {u : LS.S} {n : Nat} : forK C tg u env (.cl n, S) = forC (exS C u) tg n C.g.fu 0 env S := id rfl
@[simp] theorem xs_whl {u : LS.S} : exS C (.whl t u) env S = whileN (evT C t) (exS C u) C.g.fu env S := by simp only [exS]
@[simp] theorem parK_1 {i : Nat} {w : W} : parK env [i] ([w], S) = .nx (env.set i (some w)) S := id rfl
@[simp] theorem parK_2 {i j : Nat} {w v : W} : parK env [i, j] ([w, v], S) = .nx ((env.set i (some w)).set j (some v)) S := id rfl
@[simp] theorem parK_3 {i j k : Nat} {w v u : W} : parK env [i, j, k] ([w, v, u], S) = .nx (((env.set i (some w)).set j (some v)).set k (some u)) S := id rfl
end
/-! calls -/
section
variable {T : Str → Option Fn} {g : Gm} {d : Nat} {f : Str} {args : List W} {S : Cells}
theorem call_fn {n np : Nat} {dfl : List P} {body : LS.S} {own : Bool} {as : List W} {Q : W × Cells → Prop} {E : XQ} (hT : T f = some (.fn n np dfl body own)) (ha : fillA np dfl args = some as)
    (h : WS (exS ⟨callF T g d, g⟩ body (startE n as) S) ⟨fun _ S1 => WX (fnEnd own S.length (.v .non) S1) Q E, fun w S1 => WX (fnEnd own S.length w S1) Q E, fun _ _ => False, fun _ _ => False, fun c fs _ S1 => E c fs (S1.take S.length)⟩) : WX (callF T g (d + 1) f args S) Q E := by
  unfold callF
  rw [hT]
  simp only [ha]
  cases hx : exS ⟨callF T g d, g⟩ body (startE n as) S <;> rw [hx] at h
  · exact h
  · exact h
  · exact h.elim
  · exact h.elim
  · exact h
  · exact h.elim
theorem call_mk {init : Str} {Q : W × Cells → Prop} {E : XQ} (hT : T f = some (.cls init))
    (h : WX (callF T g d init (.c S.length :: args) (S ++ [.ins f []])) (fun q => q.1 = .v .non ∧ WX (finC false S.length q.2) Q E) fun c fs S1 => E c fs (S1.take S.length)) : WX (callF T g (d + 1) f args S) Q E := by
  unfold callF
  rw [hT]
  simp only
  cases hx : callF T g d init (.c S.length :: args) (S ++ [.ins f []]) <;> rw [hx] at h
  · obtain ⟨h1, h2⟩ := h
    rename_i a
    obtain ⟨w, S1⟩ := a
    cases h1
    exact h2
  · exact h
  · exact h.elim
@[simp] theorem end_vv {own : Bool} {k : Nat} {p : P} {S : Cells} : fnEnd own k (.v p) S = .ok (.v p, S.take k) := id rfl
end
end LS

set_option Elab.async false
set_option linter.all false
set_option maxRecDepth 100000
/-! LW2: loops and comprehensions; cells at the end of the stack. -/
namespace LS
open PySem L2
theorem lim_v : lim = 1000000 := rfl
/-! cells -/
section
variable {S : List Cell} {l : List Cell} {c : Cell} {k : Nat} {s : Sm}
@[simp high] theorem ap_at : (S ++ l)[S.length]? = l[0]? := by
  rw [List.getElem?_append_right (Nat.le_refl _)]; congr 1; omega
@[simp high] theorem ap_at1 : (S ++ l)[S.length + 1]? = l[1]? := by
  rw [List.getElem?_append_right (by omega)]; congr 1; omega
@[simp high] theorem ap_at2 : (S ++ l)[S.length + 2]? = l[2]? := by
  rw [List.getElem?_append_right (by omega)]; congr 1; omega
@[simp high] theorem ap_at3 : (S ++ l)[S.length + 3]? = l[3]? := by
  rw [List.getElem?_append_right (by omega)]; congr 1; omega
@[simp] theorem ap_set : (S ++ l).set S.length c = S ++ l.set 0 c := by
  rw [List.set_append, if_neg (by omega)]; congr 2; omega
@[simp] theorem ap_set1 : (S ++ l).set (S.length + 1) c = S ++ l.set 1 c := by
  rw [List.set_append, if_neg (by omega)]; congr 2; omega
@[simp] theorem ap_set2 : (S ++ l).set (S.length + 2) c = S ++ l.set 2 c := by
  rw [List.set_append, if_neg (by omega)]; congr 2; omega
@[simp] theorem ap_take : (S ++ l).take S.length = S := List.take_left' rfl
@[simp] theorem tk_self : S.take S.length = S := List.take_of_length_le (Nat.le_refl _)
@[simp] theorem ap_take1 {a : Cell} : (S ++ a :: l).take (S.length + 1) = S ++ [a] := by
  rw [show S ++ a :: l = (S ++ [a]) ++ l by simp]
  exact List.take_left' (by simp)
@[simp] theorem sm_len {r : Cells} : (s.cells r).length = r.length + 2 := by simp [Sm.cells]
@[simp] theorem sm_ap {r : Cells} : s.cells r ++ l = s.cells (r ++ l) := id rfl
theorem sm_at {r : Cells} : (s.cells r)[k + 2]? = r[k]? := rfl
theorem sm_set {r : Cells} : (s.cells r).set (k + 2) c = s.cells (r.set k c) := rfl
@[simp high] theorem sm_at0 {r : Cells} : (s.cells (r ++ l))[r.length + 2]? = l[0]? := by rw [sm_at]; simp
@[simp high] theorem sm_at1 {r : Cells} : (s.cells (r ++ l))[r.length + 3]? = l[1]? := by rw [show r.length + 3 = r.length + 1 + 2 from rfl, sm_at]; simp
@[simp high] theorem sm_at2 {r : Cells} : (s.cells (r ++ l))[r.length + 4]? = l[2]? := by rw [show r.length + 4 = r.length + 2 + 2 from rfl, sm_at]; simp
@[simp] theorem sm_set0 {r : Cells} : (s.cells (r ++ l)).set (r.length + 2) c = s.cells (r ++ l.set 0 c) := by rw [sm_set]; simp
@[simp] theorem sm_set1 {r : Cells} : (s.cells (r ++ l)).set (r.length + 3) c = s.cells (r ++ l.set 1 c) := by rw [show r.length + 3 = r.length + 1 + 2 from rfl, sm_set]; simp
@[simp] theorem sm_set2 {r : Cells} : (s.cells (r ++ l)).set (r.length + 4) c = s.cells (r ++ l.set 2 c) := by rw [show r.length + 4 = r.length + 2 + 2 from rfl, sm_set]; simp
@[simp] theorem sm_take {r : Cells} : (s.cells (r ++ l)).take (r.length + 2) = s.cells r := by
  rw [← sm_ap, ← sm_len (s := s) (r := r)]; exact ap_take
@[simp] theorem sm_take0 {r : Cells} : (s.cells r).take (r.length + 2) = s.cells r := by
  rw [← sm_len (s := s) (r := r)]; exact tk_self
@[simp] theorem sm_take1 {r : Cells} {a : Cell} : (s.cells (r ++ a :: l)).take (r.length + 3) = s.cells (r ++ [a]) := by
  rw [← sm_ap, ← sm_ap, show r.length + 3 = (s.cells r).length + 1 by simp]; exact ap_take1
theorem low_v {ps : List P} {k : Nat} : (ps.map W.v).all (refBelow k) = true := plain_low ps k
@[simp] theorem alc_lst {ps : List P} : alloc (.lst (ps.map .v)) S = .ok (.c S.length, S ++ [.lst (ps.map .v)]) := by
  unfold alloc
  rw [if_pos (by show (ps.map W.v).all _ = true; exact low_v)]
@[simp] theorem alc_nil : alloc (.lst []) S = .ok (.c S.length, S ++ [.lst []]) := alc_lst (ps := [])
theorem allP_v {ps : List P} : allP (ps.map .v) = some ps := allP_map ps
theorem wr_lst {ps : List P} {n : Nat} : write n (.lst (ps.map .v)) S = .ok (S.set n (.lst (ps.map .v))) := by
  unfold write
  rw [if_pos (by show (ps.map W.v).all _ = true; exact low_v)]
theorem push_v {ps : List P} {p : P} {n : Nat} (h : S[n]? = some (.lst (ps.map .v))) (hl : ps.length < lim) : pushC n (.v p) S = .ok (S.set n (.lst ((ps ++ [p]).map .v))) := by
  unfold pushC
  rw [h]
  simp only [List.length_map, if_pos hl]
  rw [← wr_lst, List.map_append]
  rfl
theorem bm_append {ps : List P} {p : P} {n : Nat} (h : S[n]? = some (.lst (ps.map .v))) (hl : ps.length < lim) : bmOp .append (.c n) [.v p] S = .ok (.v .non, S.set n (.lst ((ps ++ [p]).map .v))) := by
  simp only [bmOp, appendOp, push_v h hl, b_ok]
theorem bm_extend {ps qs : List P} {n : Nat} (h : S[n]? = some (.lst (ps.map .v))) (hl : ps.length + qs.length ≤ lim) : bmOp .extend (.c n) [.v (.lst qs)] S = .ok (.v .non, S.set n (.lst ((ps ++ qs).map .v))) := by
  simp only [bmOp, extendOp, h, W.view, List.length_map, if_pos hl]
  rw [← List.map_append, wr_lst]
  rfl
theorem ty_lst {ws : List W} {n : Nat} (h : S[n]? = some (.lst ws)) : bmTy .append (.c n) S = true ∧ bmTy .extend (.c n) S = true ∧ bmTy .pop0 (.c n) S = true := by
  simp [bmTy, bmTy.isLst, h]
theorem fin_l {ps : List P} {D : Nat} (h : S[D]? = some (.lst (ps.map .v))) : finC false D S = .ok (.v (.lst ps), S.take D) := by
  simp [finC, h, Cell.view]
theorem end_l {ps : List P} {k n : Nat} (h : S[n]? = some (.lst (ps.map .v))) (hk : k ≤ n) : fnEnd false k (.c n) S = .ok (.v (.lst ps), S.take k) := by
  simp [fnEnd, h, Cell.view, Nat.not_lt.mpr hk]
end
section
variable {S : List Cell} {l : List Cell}
/-- a dict display of plain things -/
@[simp] theorem dic_pl {kvs : List (Key × P)} (h : kvs.length ≤ 15) (hn : (kvs.map (·.1)).Nodup) : dicK false S.length (kvs.map fun z => (z.1, .v z.2), S ++ [.dct []]) = .ok (.v (.dct kvs), S) := by
  have fold : ∀ (zs : List (Key × P)) (acc : List (Key × P)), ((acc ++ zs).map (·.1)).Nodup → (zs.map fun z => (z.1, W.v z.2)).foldl (fun acc z => setK acc z.1 z.2) (acc.map fun z => (z.1, W.v z.2)) = (acc ++ zs).map fun z => (z.1, W.v z.2) := by
    intro zs
    induction zs with
    | nil => intro acc _; simp
    | cons z zs ih =>
      intro acc hn
      have h1 : setK (acc.map fun z => (z.1, W.v z.2)) z.1 (.v z.2) = (acc ++ [z]).map fun z => (z.1, W.v z.2) := by
        unfold setK
        rw [if_neg]
        · simp
        · intro e
          obtain ⟨q, hq, e⟩ := List.any_eq_true.mp e
          obtain ⟨y, hy, rfl⟩ := List.mem_map.mp hq
          have e : y.1 = z.1 := of_decide_eq_true e
          simp only [List.map_append, List.map_cons, List.nodup_append] at hn
          exact hn.2.2 y.1 (List.mem_map_of_mem hy) z.1 (by simp) e
      simp only [List.map_cons, List.foldl_cons]
      rw [h1, ih (acc ++ [z]) (by simpa using hn)]
      simp
  have hf := fold kvs [] (by simpa using hn)
  simp only [List.map_nil, List.nil_append] at hf
  have hall : allKP (kvs.map fun z => (z.1, W.v z.2)) = some kvs := by
    clear hf fold h hn
    induction kvs with
    | nil => rfl
    | cons z zs ih => simp [allKP, ih]
  have hlow : Cell.lows S.length (.dct (kvs.map fun z => (z.1, W.v z.2))) = true := by
    show (kvs.map fun z => (z.1, W.v z.2)).all _ = true
    rw [List.all_map]
    exact List.all_eq_true.mpr fun _ _ => rfl
  unfold dicK
  simp only [ap_at, List.getElem?_cons_zero, List.length_map]
  rw [if_neg (by omega), hf]
  unfold write
  rw [if_pos hlow]
  simp only [b_ok, ap_set, List.set_cons_zero, finC, ap_at, List.getElem?_cons_zero, Cell.view, hall, Option.map_some, ap_take]
@[simp] theorem dic_empT : dicK true S.length ([], S ++ [.dct []]) = .ok (.c S.length, S ++ [.dct []]) := by
  simp [dicK, finC]
end
/-! loops -/
section
variable {Z : Po} {body : Env → Cells → RS} {tg : Tg}
/-- a for loop by what holds between its turns -/
theorem WS_for (I : List W → Env → Cells → Prop) (step : ∀ x xs env S, I (x :: xs) env S → ∃ e0, setTg tg x env = some e0 ∧ WS (body e0 S) ⟨I xs, Z.rt, Z.nx, I xs, Z.ex⟩) (fin : ∀ env S, I [] env S → Z.nx env S) :
    ∀ {xs : List W} {env : Env} {S : Cells}, I xs env S → WS (forL body tg xs env S) Z
  | [], env, S, h => fin env S h
  | x :: xs, env, S, h => by
    obtain ⟨e0, h1, h2⟩ := step x xs env S h
    unfold forL
    rw [h1]
    simp only
    cases hb : body e0 S with
    | nx e s => rw [hb] at h2; exact WS_for I step fin h2
    | ct e s => rw [hb] at h2; exact WS_for I step fin h2
    | bk e s => rw [hb] at h2; exact h2
    | ret w s => rw [hb] at h2; exact h2
    | ex c fs e s => rw [hb] at h2; exact h2
    | no => rw [hb] at h2; exact h2.elim
end
section
variable {Z : Po} {body : Env → Cells → RS} {tg : Tg} {α : Type}
/-- .. over the things ys, by what was done so far -/
theorem WS_forW {ys : List α} {w : α → W} {env : Env} {S : Cells} (I : List α → Env → Cells → Prop) (h0 : I [] env S)
    (step : ∀ done y todo env S, ys = done ++ y :: todo → I done env S → ∃ e0, setTg tg (w y) env = some e0 ∧ WS (body e0 S) ⟨I (done ++ [y]), Z.rt, Z.nx, I (done ++ [y]), Z.ex⟩)
    (fin : ∀ env S, I ys env S → Z.nx env S) : WS (forL body tg (ys.map w) env S) Z := by
  refine WS_for (fun xs env S => ∃ done todo, ys = done ++ todo ∧ xs = todo.map w ∧ I done env S) ?_ ?_ ⟨[], ys, rfl, rfl, h0⟩
  · rintro x xs env S ⟨done, todo, h1, h2, h3⟩
    cases todo with
    | nil => cases h2
    | cons y todo =>
      cases h2
      obtain ⟨e0, h4, h5⟩ := step done y todo env S h1 h3
      refine ⟨e0, h4, h5.mono ?_ (fun _ _ h => h) (fun _ _ h => h) ?_ (fun _ _ _ _ h => h)⟩
      · exact fun e s h => ⟨done ++ [y], todo, by simp [h1], rfl, h⟩
      · exact fun e s h => ⟨done ++ [y], todo, by simp [h1], rfl, h⟩
  · rintro env S ⟨done, todo, h1, h2, h3⟩
    cases todo with
    | nil => rw [List.append_nil] at h1; subst h1; exact fin env S h3
    | cons _ _ => cases h2
theorem WS_forM {ps : List P} {env : Env} {S : Cells} (ys : List α) (q : α → P) (I : List α → Env → Cells → Prop) (hp : ps = ys.map q) (h0 : I [] env S)
    (step : ∀ done y todo env S, ys = done ++ y :: todo → I done env S → ∃ e0, setTg tg (.v (q y)) env = some e0 ∧ WS (body e0 S) ⟨I (done ++ [y]), Z.rt, Z.nx, I (done ++ [y]), Z.ex⟩)
    (fin : ∀ env S, I ys env S → Z.nx env S) : WS (forL body tg (ps.map .v) env S) Z := by
  rw [hp, List.map_map]
  exact WS_forW (w := fun y => .v (q y)) I h0 step fin
end
section
variable {σ : Type} {C : Cn} {env : Env} {own : List (Str × Nat)} {tg : Tg} {it ifs elt : E} {rest S0 : Cells} {Q : W × Cells → Prop} {E0 : XQ}
/-- a comprehension of plain things, with a state -/
theorem WX_lc (F : Fam σ) (Inv : List W → List P → σ → Prop) {xs : List W} {s : σ} (hi : evI C it env S0 = .ok (.st xs, F.st s rest)) (hz : xs.length ≤ lim) (h0 : Inv xs [] s)
    (step : ∀ x xs acc s, Inv (x :: xs) acc s → ∃ e0, setTg tg x (wipeE env (own.map (·.2))) = some e0 ∧
      WX (evIf C ifs e0 (F.st s (rest ++ [.lst (acc.map W.v)]))) (fun b => ∃ s1, b.2 = F.st s1 (rest ++ [.lst (acc.map W.v)]) ∧ (b.1 = false → Inv xs acc s1) ∧
        (b.1 = true → WX (evE C elt e0 (F.st s1 (rest ++ [.lst (acc.map W.v)]))) (fun z => ∃ p s2, z = (.v p, F.st s2 (rest ++ [.lst (acc.map W.v)])) ∧ Inv xs (acc ++ [p]) s2) fun _ _ _ => False)) fun _ _ _ => False)
    (fin : ∀ ps s, Inv [] ps s → Q (.v (.lst ps), F.st s rest)) : WX (evE C (.lc false own tg it ifs elt) env S0) Q E0 := by
  obtain ⟨ps, s', h1, h2⟩ := lc_ok F Inv (C := C) (env := env) (own := own) (tg := tg) (it := it) (ifs := ifs) (elt := elt) (rest := rest) hi hz h0 (by
    intro x xs acc s hI
    obtain ⟨e0, h1, h2⟩ := step x xs acc s hI
    obtain ⟨⟨b, S1⟩, h3, s1, h4, h5, h6⟩ := WX_eq h2
    cases h4
    refine ⟨e0, s1, h1, ?_⟩
    cases b with
    | false => exact .inl ⟨h3, h5 rfl⟩
    | true =>
      obtain ⟨z, h7, p, s2, rfl, h8⟩ := WX_eq (h6 rfl)
      exact .inr ⟨s2, p, h3, h7, h8⟩)
  rw [h1]
  exact fin ps s' h2
/-- .. that only looks: for each y of ys -/
theorem lc_p {α : Type} {ps : List P} {S : Cells} (ys : List α) (q : α → P) (b : α → Bool) (f : α → P) (hi : evI C it env S0 = .ok (.st (ps.map .v), S)) (hp : ps = ys.map q) (hz : ys.length ≤ lim)
    (step : ∀ y ∈ ys, ∀ R, ∃ e0, setTg tg (.v (q y)) (wipeE env (own.map (·.2))) = some e0 ∧ evIf C ifs e0 (S ++ [R]) = .ok (b y, S ++ [R]) ∧ (b y = true → evE C elt e0 (S ++ [R]) = .ok (.v (f y), S ++ [R]))) :
    evE C (.lc false own tg it ifs elt) env S0 = .ok (.v (.lst ((ys.filter b).map f)), S) :=
  lc_pure famU (rest := S) (s := ()) (w := fun y => .v (q y)) (by rw [hi, hp, List.map_map]; rfl) hz step
/-- .. without a test -/
theorem lc_m {α : Type} {ps : List P} {S : Cells} (ys : List α) (q : α → P) (f : α → P) (hi : evI C it env S0 = .ok (.st (ps.map .v), S)) (hp : ps = ys.map q) (hz : ys.length ≤ lim)
    (step : ∀ y ∈ ys, ∀ R, ∃ e0, setTg tg (.v (q y)) (wipeE env (own.map (·.2))) = some e0 ∧ evE C elt e0 (S ++ [R]) = .ok (.v (f y), S ++ [R])) :
    evE C (.lc false own tg it .nil elt) env S0 = .ok (.v (.lst (ys.map f)), S) := by
  have := lc_p (ifs := .nil) ys q (fun _ => true) f hi hp hz (own := own) (tg := tg) (elt := elt) (fun y hy R => by
    obtain ⟨e0, h1, h2⟩ := step y hy R
    exact ⟨e0, h1, by simp, fun _ => h2⟩)
  rwa [List.filter_eq_self.mpr (fun _ _ => rfl)] at this
end
section
variable {C : Cn} {env : Env} {own : List (Str × Nat)} {tg : Tg} {it ifs elt : E} {S0 : Cells}
/-- .. that stays a cell -/
theorem lc_pT {α : Type} {ps : List P} {S : Cells} (ys : List α) (q : α → P) (b : α → Bool) (f : α → P) (hi : evI C it env S0 = .ok (.st (ps.map .v), S)) (hp : ps = ys.map q) (hz : ys.length ≤ lim)
    (step : ∀ y ∈ ys, ∀ R, ∃ e0, setTg tg (.v (q y)) (wipeE env (own.map (·.2))) = some e0 ∧ evIf C ifs e0 (S ++ [R]) = .ok (b y, S ++ [R]) ∧ (b y = true → evE C elt e0 (S ++ [R]) = .ok (.v (f y), S ++ [R]))) :
    evE C (.lc true own tg it ifs elt) env S0 = .ok (.c S.length, S ++ [.lst (((ys.filter b).map f).map .v)]) := by
  have lp : ∀ (todo done : List α), ys = done ++ todo →
      loopL (lcTurn C env own tg ifs elt S.length) (todo.map fun y => .v (q y)) (S ++ [.lst (((done.filter b).map f).map W.v)]) = .ok (S ++ [.lst (((ys.filter b).map f).map W.v)]) := by
    intro todo
    induction todo with
    | nil =>
      intro done h
      rw [List.append_nil] at h
      subst h
      rfl
    | cons y todo ih =>
      intro done h
      have hlen : done.length < lim := by
        have := congrArg List.length h
        simp at this
        omega
      obtain ⟨e0, h1, h2, h3⟩ := step y (by rw [h]; simp) (.lst (((done.filter b).map f).map W.v))
      have ht : lcTurn C env own tg ifs elt S.length (.v (q y)) (S ++ [.lst (((done.filter b).map f).map W.v)]) = .ok (S ++ [.lst ((((done ++ [y]).filter b).map f).map W.v)]) := by
        unfold lcTurn
        rw [h1]
        simp only [h2, bok]
        cases hb : b y with
        | false => simp [hb]
        | true =>
          simp only [if_pos, h3 hb, bok]
          have := push_last S ((done.filter b).map f) (f y) (by
            have : (done.filter b).length ≤ done.length := List.length_filter_le _ _
            simp; omega)
          rw [this]
          simp [hb]
      simp only [List.map_cons, loopL, ht, b_ok]
      exact ih (done ++ [y]) (by simp [h])
  have := lp ys [] rfl
  refine e_lc hi (S2 := S ++ [.lst (((ys.filter b).map f).map W.v)]) ?_ (by simp [finC])
  rw [hp, List.map_map]
  exact this
end
/-! a loop over a written list -/
def loopS (r : RS) (k : Env → Cells → RS) : RS := match r with
  | .nx e s => k e s
  | .ct e s => k e s
  | .bk e s => .nx e s
  | q => q
section
variable {body : Env → Cells → RS} {tg : Tg} {env : Env} {S : Cells} {x : W} {xs : List W} {k : Env → Cells → RS} {Z : Po}
theorem loopS_cg {m m' : RS} {k : Env → Cells → RS} (h : m = m') : loopS m k = loopS m' k := by rw [h]
@[simp] theorem lp_nx {e : Env} {s : Cells} : loopS (.nx e s) k = k e s := id rfl
@[simp] theorem lp_ct {e : Env} {s : Cells} : loopS (.ct e s) k = k e s := id rfl
@[simp] theorem lp_bk {e : Env} {s : Cells} : loopS (.bk e s) k = .nx e s := id rfl
@[simp] theorem lp_rt {e : W} {s : Cells} : loopS (.ret e s) k = .ret e s := id rfl
theorem WS_loop {r : RS} : WS (loopS r k) Z = WS r ⟨fun e s => WS (k e s) Z, Z.rt, Z.nx, fun e s => WS (k e s) Z, Z.ex⟩ := by
  cases r <;> rfl
@[simp] theorem fo_nil : forL body tg [] env S = .nx env S := id rfl
@[simp] theorem fo_name {i : Nat} : forL body (.name i) (x :: xs) env S = loopS (body (env.set i (some x)) S) fun e s => forL body (.name i) xs e s := by
  simp only [forL, setTg, loopS]
  all_goals (cases body (env.set i (some x)) S <;> rfl)
end
/-! comprehensions over a cell -/
section
variable {C : Cn} {env : Env} {own : List (Str × Nat)} {tg : Tg} {it ifs elt : E} {S0 : Cells}
theorem lc_cw {α : Type} {ys : List α} {w : α → W} {n : Nat} (b : α → Bool) (f : α → P) {S : Cells} (hi : evI C it env S0 = .ok (.cl n, S)) (hn : S[n]? = some (.lst (ys.map w))) (hfu : ys.length < C.g.fu) (hz : ys.length ≤ lim)
    (step : ∀ y ∈ ys, ∀ R, ∃ e0, setTg tg (w y) (wipeE env (own.map (·.2))) = some e0 ∧ evIf C ifs e0 (S ++ [R]) = .ok (b y, S ++ [R]) ∧ (b y = true → evE C elt e0 (S ++ [R]) = .ok (.v (f y), S ++ [R]))) :
    evE C (.lc false own tg it ifs elt) env S0 = .ok (.v (.lst ((ys.filter b).map f)), S) := by
  have hlt : n < S.length := (List.getElem?_eq_some_iff.mp hn).1
  have lp : ∀ (todo done : List α) (fu : Nat), ys = done ++ todo → todo.length < fu →
      loopC (lcTurn C env own tg ifs elt S.length) n fu done.length (S ++ [.lst (((done.filter b).map f).map W.v)]) = .ok (S ++ [.lst (((ys.filter b).map f).map W.v)]) := by
    intro todo
    induction todo with
    | nil =>
      intro done fu h hf
      rw [List.append_nil] at h
      subst h
      cases fu with
      | zero => omega
      | succ fu =>
        unfold loopC
        rw [List.getElem?_append_left hlt, hn]
        simp
    | cons y todo ih =>
      intro done fu h hf
      cases fu with
      | zero => omega
      | succ fu =>
        have hlen : done.length < lim := by
          have := congrArg List.length h
          simp at this
          omega
        unfold loopC
        rw [List.getElem?_append_left hlt, hn]
        have hat : (ys.map w)[done.length]? = some (w y) := by rw [h]; simp
        simp only [hat]
        obtain ⟨e0, h1, h2, h3⟩ := step y (by rw [h]; simp) (.lst (((done.filter b).map f).map W.v))
        have ht : lcTurn C env own tg ifs elt S.length (w y) (S ++ [.lst (((done.filter b).map f).map W.v)]) = .ok (S ++ [.lst ((((done ++ [y]).filter b).map f).map W.v)]) := by
          unfold lcTurn
          rw [h1]
          simp only [h2, bok]
          cases hb : b y with
          | false => simp [hb]
          | true =>
            simp only [if_pos, h3 hb, bok]
            have := push_last S ((done.filter b).map f) (f y) (by
              have : (done.filter b).length ≤ done.length := List.length_filter_le _ _
              simp; omega)
            rw [this]
            simp [hb]
        rw [ht]
        have := ih (done ++ [y]) fu (by simp [h]) (by simpa using hf)
        simpa using this
  have := lp ys [] C.g.fu rfl hfu
  simp only [evE, hi, bok, loopI]
  show (loopC (lcTurn C env own tg ifs elt S.length) n C.g.fu 0 (S ++ [.lst []])).bind _ = _
  rw [show (0 : Nat) = ([] : List α).length from rfl]
  rw [show (Cell.lst []) = Cell.lst (((([] : List α).filter b).map f).map W.v) from rfl, this]
  exact fin_lst _ _
theorem lc_c {α : Type} {n : Nat} {ps : List P} {S : Cells} (ys : List α) (q : α → P) (b : α → Bool) (f : α → P) (hi : evI C it env S0 = .ok (.cl n, S)) (hn : S[n]? = some (.lst (ps.map .v))) (hp : ps = ys.map q) (hfu : ys.length < C.g.fu) (hz : ys.length ≤ lim)
    (step : ∀ y ∈ ys, ∀ R, ∃ e0, setTg tg (.v (q y)) (wipeE env (own.map (·.2))) = some e0 ∧ evIf C ifs e0 (S ++ [R]) = .ok (b y, S ++ [R]) ∧ (b y = true → evE C elt e0 (S ++ [R]) = .ok (.v (f y), S ++ [R]))) :
    evE C (.lc false own tg it ifs elt) env S0 = .ok (.v (.lst ((ys.filter b).map f)), S) :=
  lc_cw (w := fun y => .v (q y)) b f hi (by rw [hn, hp, List.map_map]; rfl) hfu hz step
theorem lc_cm {α : Type} {n : Nat} {ps : List P} {S : Cells} (ys : List α) (q : α → P) (f : α → P) (hi : evI C it env S0 = .ok (.cl n, S)) (hn : S[n]? = some (.lst (ps.map .v))) (hp : ps = ys.map q) (hfu : ys.length < C.g.fu) (hz : ys.length ≤ lim)
    (step : ∀ y ∈ ys, ∀ R, ∃ e0, setTg tg (.v (q y)) (wipeE env (own.map (·.2))) = some e0 ∧ evE C elt e0 (S ++ [R]) = .ok (.v (f y), S ++ [R])) :
    evE C (.lc false own tg it .nil elt) env S0 = .ok (.v (.lst (ys.map f)), S) := by
  have := lc_c (ifs := .nil) ys q (fun _ => true) f hi hn hp hfu hz (own := own) (tg := tg) (elt := elt) (fun y hy R => by
    obtain ⟨e0, h1, h2⟩ := step y hy R
    exact ⟨e0, h1, by simp, fun _ => h2⟩)
  rwa [List.filter_eq_self.mpr (fun _ _ => rfl)] at this
end
/-! dict comprehensions -/
def dcTurn (C : Cn) (env : Env) (own : List (Str × Nat)) (tg : Tg) (ifs k v : E) (D : Nat) (x : W) (S : Cells) : R Cells := match setTg tg x (wipeE env (own.map (·.2))) with
      | some env => (evIf C ifs env S).bind fun b => if b.1 = true then (evE C k env b.2).bind fun y => (evE C v env y.2).bind fun z => match y.1 with
          | .v p => match keyOf p with
            | some k => putC D k z.1 z.2
            | none => .no
          | _ => .no
        else .ok b.2
      | none => .no
theorem allKP_map {α : Type} {ys : List α} {f : α → Key × P} : allKP (ys.map fun y => ((f y).1, W.v (f y).2)) = some (ys.map f) := by
  induction ys with
  | nil => rfl
  | cons y ys ih => simp [allKP, ih]
section
variable {C : Cn} {env : Env} {own : List (Str × Nat)} {tg : Tg} {it ifs k v : E} {S0 : Cells}
theorem dc_p {α : Type} {ps : List P} {S : Cells} (ys : List α) (q : α → P) (b : α → Bool) (f : α → Key × P) (hi : evI C it env S0 = .ok (.st (ps.map .v), S)) (hp : ps = ys.map q) (hz : ys.length ≤ lim) (hn : ((ys.filter b).map fun y => (f y).1).Nodup)
    (step : ∀ y ∈ ys, ∀ R, ∃ e0, setTg tg (.v (q y)) (wipeE env (own.map (·.2))) = some e0 ∧ evIf C ifs e0 (S ++ [R]) = .ok (b y, S ++ [R]) ∧ (b y = true → evE C k e0 (S ++ [R]) = .ok (.v (kP (f y).1), S ++ [R]) ∧ evE C v e0 (S ++ [R]) = .ok (.v (f y).2, S ++ [R]))) :
    evE C (.dc false own tg it ifs k v) env S0 = .ok (.v (.dct ((ys.filter b).map f)), S) := by
  have hkk : ∀ k : Key, keyOf (kP k) = some k := fun k => by cases k <;> rfl
  have lp : ∀ (todo done : List α), ys = done ++ todo →
      loopL (dcTurn C env own tg ifs k v S.length) (todo.map fun y => .v (q y)) (S ++ [.dct ((done.filter b).map fun y => ((f y).1, W.v (f y).2))]) = .ok (S ++ [.dct ((ys.filter b).map fun y => ((f y).1, W.v (f y).2))]) := by
    intro todo
    induction todo with
    | nil =>
      intro done h
      rw [List.append_nil] at h
      subst h
      rfl
    | cons y todo ih =>
      intro done h
      have hlen : (done.filter b).length < lim := by
        have h1 := congrArg List.length h
        have h2 : (done.filter b).length ≤ done.length := List.length_filter_le _ _
        simp at h1
        omega
      obtain ⟨e0, h1, h2, h3⟩ := step y (by rw [h]; simp) (.dct ((done.filter b).map fun y => ((f y).1, W.v (f y).2)))
      have ht : dcTurn C env own tg ifs k v S.length (.v (q y)) (S ++ [.dct ((done.filter b).map fun y => ((f y).1, W.v (f y).2))]) = .ok (S ++ [.dct (((done ++ [y]).filter b).map fun y => ((f y).1, W.v (f y).2))]) := by
        unfold dcTurn
        rw [h1]
        simp only [h2, b_ok]
        cases hb : b y with
        | false => simp [hb]
        | true =>
          obtain ⟨h4, h5⟩ := h3 hb
          simp only [if_pos, h4, h5, b_ok, hkk]
          have hs : setK ((done.filter b).map fun y => ((f y).1, W.v (f y).2)) (f y).1 (.v (f y).2) = ((done ++ [y]).filter b).map fun y => ((f y).1, W.v (f y).2) := by
            unfold setK
            rw [if_neg]
            · simp [hb]
            · intro e
              obtain ⟨z, hz, e⟩ := List.any_eq_true.mp e
              obtain ⟨u, hu, rfl⟩ := List.mem_map.mp hz
              have e : (f u).1 = (f y).1 := of_decide_eq_true e
              rw [h, List.filter_append, List.map_append, List.nodup_append] at hn
              exact hn.2.2 _ (List.mem_map_of_mem hu) (f y).1 (by simp [hb]) e
          unfold putC
          have hlow : Cell.lows S.length (.dct (((done ++ [y]).filter b).map fun y => ((f y).1, W.v (f y).2))) = true := by
            show List.all _ _ = true
            rw [List.all_map]
            exact List.all_eq_true.mpr fun _ _ => rfl
          simp only [ap_at, List.getElem?_cons_zero, List.length_map, if_pos hlen, hs]
          rw [wr_eq, if_pos hlow]
          simp
      simp only [List.map_cons, loopL, ht, b_ok]
      exact ih (done ++ [y]) (by simp [h])
  have := lp ys [] rfl
  simp only [evE, hi, b_ok, loopI]
  show (loopL (dcTurn C env own tg ifs k v S.length) (ps.map .v) (S ++ [.dct []])).bind _ = _
  rw [hp, List.map_map]
  rw [show (W.v ∘ q) = fun y => W.v (q y) from rfl, show (Cell.dct []) = Cell.dct ((([] : List α).filter b).map fun y => ((f y).1, W.v (f y).2)) from rfl, this]
  simp only [b_ok, fin_F, ap_at, List.getElem?_cons_zero, finK_d, allKP_map, ap_take]
theorem dc_m {α : Type} {ps : List P} {S : Cells} (ys : List α) (q : α → P) (f : α → Key × P) (hi : evI C it env S0 = .ok (.st (ps.map .v), S)) (hp : ps = ys.map q) (hz : ys.length ≤ lim) (hn : (ys.map fun y => (f y).1).Nodup)
    (step : ∀ y ∈ ys, ∀ R, ∃ e0, setTg tg (.v (q y)) (wipeE env (own.map (·.2))) = some e0 ∧ evE C k e0 (S ++ [R]) = .ok (.v (kP (f y).1), S ++ [R]) ∧ evE C v e0 (S ++ [R]) = .ok (.v (f y).2, S ++ [R])) :
    evE C (.dc false own tg it .nil k v) env S0 = .ok (.v (.dct (ys.map f)), S) := by
  have hf : ys.filter (fun _ => true) = ys := List.filter_eq_self.mpr (fun _ _ => rfl)
  have := dc_p (ifs := .nil) ys q (fun _ => true) f hi hp hz (by rw [hf]; exact hn) (own := own) (tg := tg) (k := k) (v := v) (fun y hy R => by
    obtain ⟨e0, h1, h2⟩ := step y hy R
    exact ⟨e0, h1, by simp, fun _ => h2⟩)
  rwa [hf] at this
end
/-! a draw -/
theorem WX_draw {T : Str → Option Fn} {g : Gm} (hT : T "_law_draw" = some (.fn 4 2 [] f__law_draw false)) {d : Nat} {s : Sm} {rest : Cells} {m B : Int} {Q : W × Cells → Prop} {E : XQ} (hs : s.ok B) (hB : B < 1000000) (hm : 0 < m) (hm2 : m < 1073741824)
    (k : ∀ (s' : Sm) (r : Int), s'.ok (B + 1) → 0 ≤ r → r < m → Q (.v (.int r), s'.cells rest)) : WX (callF T g (d + 1) "_law_draw" [.c 1, .v (.int m)] (s.cells rest)) Q E := by
  obtain ⟨s', r, h1, h2, h3, h4⟩ := draw_ok hT d (g := g) (rest := rest) hs hB hm hm2
  rw [h1]
  exact k s' r h2 h3 h4
end LS

set_option Elab.async false
set_option linter.all false
set_option maxRecDepth 100000
/-! LW3: written texts. -/
namespace LS
open PySem L2
@[simp] theorem of_inj {a b : String} : (Str.ofString a = Str.ofString b) ↔ a = b := by
  refine ⟨fun h => ?_, fun h => by rw [h]⟩
  rw [Str.ofString_eq_toList, Str.ofString_eq_toList] at h
  have h1 : a.toList.map Char.toNat = b.toList.map Char.toNat := by
    have := congrArg (fun s : Str => s.cps.toList) h
    simpa using this
  have h2 : a.toList = b.toList := by
    have inj : ∀ (l l' : List Char), l.map Char.toNat = l'.map Char.toNat → l = l' := by
      intro l
      induction l with
      | nil => intro l' h; cases l' with
        | nil => rfl
        | cons _ _ => cases h
      | cons x l ih => intro l' h; cases l' with
        | nil => cases h
        | cons y l' =>
          simp only [List.map_cons, List.cons.injEq] at h
          rw [ih l' h.2, Char.ext (UInt32.toNat_inj.mp h.1)]
    exact inj _ _ h1
  exact String.toList_inj.mp h2
@[simp] theorem len_of {a : String} : (Str.ofString a).length = a.length := by
  rw [Str.ofString_eq_toList]
  show (a.toList.map Char.toNat).toArray.size = _
  simp
  rfl
@[simp] theorem len_app {a b : Str} : (a ++ b).length = a.length + b.length := Str.length_append a b
@[simp] theorem emp_app {a : Str} : Str.empty ++ a = a := Str.empty_append a
@[simp] theorem emp_len : Str.empty.length = 0 := id rfl
@[simp] theorem nil_of : Str.ofString "" = Str.empty := empty_str
@[simp] theorem app_of {a b : String} : Str.ofString a ++ Str.ofString b = Str.ofString (a ++ b) := by
  rw [Str.ofString_eq_toList, Str.ofString_eq_toList, Str.ofString_eq_toList]
  show (⟨_ ++ _⟩ : Str) = _
  simp
@[simp] theorem ln_0 : ("" : String).length = 0 := id rfl
@[simp] theorem ln_1 : (" " : String).length = 1 := id rfl
@[simp] theorem ln_2 : (" 7" : String).length = 2 := id rfl
@[simp] theorem ln_3 : (" a=1" : String).length = 4 := id rfl
@[simp] theorem ln_4 : (" from " : String).length = 6 := id rfl
@[simp] theorem ln_5 : (" to " : String).length = 4 := id rfl
@[simp] theorem ln_6 : (" x" : String).length = 2 := id rfl
@[simp] theorem ln_7 : ("+1" : String).length = 2 := id rfl
@[simp] theorem ln_8 : ("," : String).length = 1 := id rfl
@[simp] theorem ln_9 : ("-" : String).length = 1 := id rfl
@[simp] theorem ln_10 : ("-1" : String).length = 2 := id rfl
@[simp] theorem ln_11 : ("0" : String).length = 1 := id rfl
@[simp] theorem ln_12 : ("00" : String).length = 2 := id rfl
@[simp] theorem ln_13 : ("01" : String).length = 2 := id rfl
@[simp] theorem ln_14 : ("0123456789" : String).length = 10 := id rfl
@[simp] theorem ln_15 : ("07" : String).length = 2 := id rfl
@[simp] theorem ln_16 : ("1" : String).length = 1 := id rfl
@[simp] theorem ln_17 : ("1.0" : String).length = 3 := id rfl
@[simp] theorem ln_18 : ("5" : String).length = 1 := id rfl
@[simp] theorem ln_19 : ("=" : String).length = 1 := id rfl
@[simp] theorem ln_20 : ("=1" : String).length = 2 := id rfl
@[simp] theorem ln_21 : ("A" : String).length = 1 := id rfl
@[simp] theorem ln_22 : ("BadDeed" : String).length = 7 := id rfl
@[simp] theorem ln_23 : ("BadLine" : String).length = 7 := id rfl
@[simp] theorem ln_24 : ("BadList" : String).length = 7 := id rfl
@[simp] theorem ln_25 : ("BadName" : String).length = 7 := id rfl
@[simp] theorem ln_26 : ("BadNumber" : String).length = 9 := id rfl
@[simp] theorem ln_27 : ("BadPiece" : String).length = 8 := id rfl
@[simp] theorem ln_28 : ("BadQuestion" : String).length = 11 := id rfl
@[simp] theorem ln_29 : ("BadRule" : String).length = 7 := id rfl
@[simp] theorem ln_30 : ("BadWeaving" : String).length = 10 := id rfl
@[simp] theorem ln_31 : ("Busy" : String).length = 4 := id rfl
@[simp] theorem ln_32 : ("C" : String).length = 1 := id rfl
@[simp] theorem ln_33 : ("CSXY" : String).length = 4 := id rfl
@[simp] theorem ln_34 : ("CX" : String).length = 2 := id rfl
@[simp] theorem ln_35 : ("CXY" : String).length = 3 := id rfl
@[simp] theorem ln_36 : ("CY" : String).length = 2 := id rfl
@[simp] theorem ln_37 : ("Do" : String).length = 2 := id rfl
@[simp] theorem ln_38 : ("Fall" : String).length = 4 := id rfl
@[simp] theorem ln_39 : ("Idle" : String).length = 4 := id rfl
@[simp] theorem ln_40 : ("NameInUse" : String).length = 9 := id rfl
@[simp] theorem ln_41 : ("NoFit" : String).length = 5 := id rfl
@[simp] theorem ln_42 : ("NoRow" : String).length = 5 := id rfl
@[simp] theorem ln_43 : ("NotOpen" : String).length = 7 := id rfl
@[simp] theorem ln_44 : ("OwnOwner" : String).length = 8 := id rfl
@[simp] theorem ln_45 : ("Refused" : String).length = 7 := id rfl
@[simp] theorem ln_46 : ("S" : String).length = 1 := id rfl
@[simp] theorem ln_47 : ("SX" : String).length = 2 := id rfl
@[simp] theorem ln_48 : ("SXY" : String).length = 3 := id rfl
@[simp] theorem ln_49 : ("SY" : String).length = 2 := id rfl
@[simp] theorem ln_50 : ("Taken" : String).length = 5 := id rfl
@[simp] theorem ln_51 : ("UnknownCheck" : String).length = 12 := id rfl
@[simp] theorem ln_52 : ("UnknownKind" : String).length = 11 := id rfl
@[simp] theorem ln_53 : ("UnlikeBooks" : String).length = 11 := id rfl
@[simp] theorem ln_54 : ("Used" : String).length = 4 := id rfl
@[simp] theorem ln_55 : ("X" : String).length = 1 := id rfl
@[simp] theorem ln_56 : ("XS" : String).length = 2 := id rfl
@[simp] theorem ln_57 : ("XX" : String).length = 2 := id rfl
@[simp] theorem ln_58 : ("XYY" : String).length = 3 := id rfl
@[simp] theorem ln_59 : ("Y" : String).length = 1 := id rfl
@[simp] theorem ln_60 : ("YX" : String).length = 2 := id rfl
@[simp] theorem ln_61 : ("YY" : String).length = 2 := id rfl
@[simp] theorem ln_62 : ("Z" : String).length = 1 := id rfl
@[simp] theorem ln_63 : ("Zz" : String).length = 2 := id rfl
@[simp] theorem ln_64 : ("a" : String).length = 1 := id rfl
@[simp] theorem ln_65 : ("a b" : String).length = 3 := id rfl
@[simp] theorem ln_66 : ("a1" : String).length = 2 := id rfl
@[simp] theorem ln_67 : ("a=" : String).length = 2 := id rfl
@[simp] theorem ln_68 : ("a=1" : String).length = 3 := id rfl
@[simp] theorem ln_69 : ("a=1=2" : String).length = 5 := id rfl
@[simp] theorem ln_70 : ("abcdefghi" : String).length = 9 := id rfl
@[simp] theorem ln_71 : ("abz Z0" : String).length = 6 := id rfl
@[simp] theorem ln_72 : ("again" : String).length = 5 := id rfl
@[simp] theorem ln_73 : ("again " : String).length = 6 := id rfl
@[simp] theorem ln_74 : ("b" : String).length = 1 := id rfl
@[simp] theorem ln_75 : ("bad" : String).length = 3 := id rfl
@[simp] theorem ln_76 : ("bad deed" : String).length = 8 := id rfl
@[simp] theorem ln_77 : ("bar" : String).length = 3 := id rfl
@[simp] theorem ln_78 : ("bar " : String).length = 4 := id rfl
@[simp] theorem ln_79 : ("bare" : String).length = 4 := id rfl
@[simp] theorem ln_80 : ("bare " : String).length = 5 := id rfl
@[simp] theorem ln_81 : ("bare again" : String).length = 10 := id rfl
@[simp] theorem ln_82 : ("bare zz zz" : String).length = 10 := id rfl
@[simp] theorem ln_83 : ("book" : String).length = 4 := id rfl
@[simp] theorem ln_84 : ("c" : String).length = 1 := id rfl
@[simp] theorem ln_85 : ("calm" : String).length = 4 := id rfl
@[simp] theorem ln_86 : ("calm " : String).length = 5 := id rfl
@[simp] theorem ln_87 : ("calm again" : String).length = 10 := id rfl
@[simp] theorem ln_88 : ("check" : String).length = 5 := id rfl
@[simp] theorem ln_89 : ("check " : String).length = 6 := id rfl
@[simp] theorem ln_90 : ("check fresh" : String).length = 11 := id rfl
@[simp] theorem ln_91 : ("check lone" : String).length = 10 := id rfl
@[simp] theorem ln_92 : ("check lone " : String).length = 11 := id rfl
@[simp] theorem ln_93 : ("checks" : String).length = 6 := id rfl
@[simp] theorem ln_94 : ("clear" : String).length = 5 := id rfl
@[simp] theorem ln_95 : ("clear " : String).length = 6 := id rfl
@[simp] theorem ln_96 : ("column" : String).length = 6 := id rfl
@[simp] theorem ln_97 : ("column " : String).length = 7 := id rfl
@[simp] theorem ln_98 : ("columns" : String).length = 7 := id rfl
@[simp] theorem ln_99 : ("do" : String).length = 2 := id rfl
@[simp] theorem ln_100 : ("do 0" : String).length = 4 := id rfl
@[simp] theorem ln_101 : ("fall" : String).length = 4 := id rfl
@[simp] theorem ln_102 : ("fell" : String).length = 4 := id rfl
@[simp] theorem ln_103 : ("fell " : String).length = 5 := id rfl
@[simp] theorem ln_104 : ("fell  a" : String).length = 7 := id rfl
@[simp] theorem ln_105 : ("fell a" : String).length = 6 := id rfl
@[simp] theorem ln_106 : ("fell zz" : String).length = 7 := id rfl
@[simp] theorem ln_107 : ("felled a" : String).length = 8 := id rfl
@[simp] theorem ln_108 : ("felled x" : String).length = 8 := id rfl
@[simp] theorem ln_109 : ("fresh" : String).length = 5 := id rfl
@[simp] theorem ln_110 : ("from" : String).length = 4 := id rfl
@[simp] theorem ln_111 : ("gone" : String).length = 4 := id rfl
@[simp] theorem ln_112 : ("half" : String).length = 4 := id rfl
@[simp] theorem ln_113 : ("half " : String).length = 5 := id rfl
@[simp] theorem ln_114 : ("half  x" : String).length = 7 := id rfl
@[simp] theorem ln_115 : ("hand" : String).length = 4 := id rfl
@[simp] theorem ln_116 : ("hold" : String).length = 4 := id rfl
@[simp] theorem ln_117 : ("hold " : String).length = 5 := id rfl
@[simp] theorem ln_118 : ("hold again" : String).length = 10 := id rfl
@[simp] theorem ln_119 : ("idle" : String).length = 4 := id rfl
@[simp] theorem ln_120 : ("index" : String).length = 5 := id rfl
@[simp] theorem ln_121 : ("keep" : String).length = 4 := id rfl
@[simp] theorem ln_122 : ("keep " : String).length = 5 := id rfl
@[simp] theorem ln_123 : ("kind" : String).length = 4 := id rfl
@[simp] theorem ln_124 : ("kind " : String).length = 5 := id rfl
@[simp] theorem ln_125 : ("kind qz" : String).length = 7 := id rfl
@[simp] theorem ln_126 : ("kind strike" : String).length = 11 := id rfl
@[simp] theorem ln_127 : ("kinds" : String).length = 5 := id rfl
@[simp] theorem ln_128 : ("kinds qz" : String).length = 8 := id rfl
@[simp] theorem ln_129 : ("lists" : String).length = 5 := id rfl
@[simp] theorem ln_130 : ("lone" : String).length = 4 := id rfl
@[simp] theorem ln_131 : ("lone " : String).length = 5 := id rfl
@[simp] theorem ln_132 : ("look" : String).length = 4 := id rfl
@[simp] theorem ln_133 : ("loose" : String).length = 5 := id rfl
@[simp] theorem ln_134 : ("loose " : String).length = 6 := id rfl
@[simp] theorem ln_135 : ("loose Zz" : String).length = 8 := id rfl
@[simp] theorem ln_136 : ("loose zz zz" : String).length = 11 := id rfl
@[simp] theorem ln_137 : ("lost" : String).length = 4 := id rfl
@[simp] theorem ln_138 : ("lost " : String).length = 5 := id rfl
@[simp] theorem ln_139 : ("made" : String).length = 4 := id rfl
@[simp] theorem ln_140 : ("mark" : String).length = 4 := id rfl
@[simp] theorem ln_141 : ("marked" : String).length = 6 := id rfl
@[simp] theorem ln_142 : ("more" : String).length = 4 := id rfl
@[simp] theorem ln_143 : ("name" : String).length = 4 := id rfl
@[simp] theorem ln_144 : ("never" : String).length = 5 := id rfl
@[simp] theorem ln_145 : ("new" : String).length = 3 := id rfl
@[simp] theorem ln_146 : ("newxx" : String).length = 5 := id rfl
@[simp] theorem ln_147 : ("ninewords" : String).length = 9 := id rfl
@[simp] theorem ln_148 : ("nothing" : String).length = 7 := id rfl
@[simp] theorem ln_149 : ("number" : String).length = 6 := id rfl
@[simp] theorem ln_150 : ("numbers" : String).length = 7 := id rfl
@[simp] theorem ln_151 : ("once" : String).length = 4 := id rfl
@[simp] theorem ln_152 : ("open" : String).length = 4 := id rfl
@[simp] theorem ln_153 : ("open  kind q" : String).length = 12 := id rfl
@[simp] theorem ln_154 : ("open kind" : String).length = 9 := id rfl
@[simp] theorem ln_155 : ("open kind " : String).length = 10 := id rfl
@[simp] theorem ln_156 : ("other" : String).length = 5 := id rfl
@[simp] theorem ln_157 : ("piece" : String).length = 5 := id rfl
@[simp] theorem ln_158 : ("plain" : String).length = 5 := id rfl
@[simp] theorem ln_159 : ("put" : String).length = 3 := id rfl
@[simp] theorem ln_160 : ("put " : String).length = 4 := id rfl
@[simp] theorem ln_161 : ("put turn" : String).length = 8 := id rfl
@[simp] theorem ln_162 : ("put zz" : String).length = 6 := id rfl
@[simp] theorem ln_163 : ("q" : String).length = 1 := id rfl
@[simp] theorem ln_164 : ("qa" : String).length = 2 := id rfl
@[simp] theorem ln_165 : ("qb" : String).length = 2 := id rfl
@[simp] theorem ln_166 : ("qc" : String).length = 2 := id rfl
@[simp] theorem ln_167 : ("qd" : String).length = 2 := id rfl
@[simp] theorem ln_168 : ("qe" : String).length = 2 := id rfl
@[simp] theorem ln_169 : ("qf" : String).length = 2 := id rfl
@[simp] theorem ln_170 : ("question" : String).length = 8 := id rfl
@[simp] theorem ln_171 : ("read" : String).length = 4 := id rfl
@[simp] theorem ln_172 : ("rows" : String).length = 4 := id rfl
@[simp] theorem ln_173 : ("rule" : String).length = 4 := id rfl
@[simp] theorem ln_174 : ("s" : String).length = 1 := id rfl
@[simp] theorem ln_175 : ("size" : String).length = 4 := id rfl
@[simp] theorem ln_176 : ("spoilt" : String).length = 6 := id rfl
@[simp] theorem ln_177 : ("spoilt " : String).length = 7 := id rfl
@[simp] theorem ln_178 : ("spread" : String).length = 6 := id rfl
@[simp] theorem ln_179 : ("spread " : String).length = 7 := id rfl
@[simp] theorem ln_180 : ("spread  " : String).length = 8 := id rfl
@[simp] theorem ln_181 : ("spread Zz" : String).length = 9 := id rfl
@[simp] theorem ln_182 : ("stop" : String).length = 4 := id rfl
@[simp] theorem ln_183 : ("strike" : String).length = 6 := id rfl
@[simp] theorem ln_184 : ("stuc" : String).length = 4 := id rfl
@[simp] theorem ln_185 : ("stuck" : String).length = 5 := id rfl
@[simp] theorem ln_186 : ("to" : String).length = 2 := id rfl
@[simp] theorem ln_187 : ("told" : String).length = 4 := id rfl
@[simp] theorem ln_188 : ("turn" : String).length = 4 := id rfl
@[simp] theorem ln_189 : ("turn " : String).length = 5 := id rfl
@[simp] theorem ln_190 : ("undue" : String).length = 5 := id rfl
@[simp] theorem ln_191 : ("undue " : String).length = 6 := id rfl
@[simp] theorem ln_192 : ("unjust" : String).length = 6 := id rfl
@[simp] theorem ln_193 : ("unjust " : String).length = 7 := id rfl
@[simp] theorem ln_194 : ("unjust  x" : String).length = 9 := id rfl
@[simp] theorem ln_195 : ("unknown" : String).length = 7 := id rfl
@[simp] theorem ln_196 : ("unlike" : String).length = 6 := id rfl
@[simp] theorem ln_197 : ("used" : String).length = 4 := id rfl
@[simp] theorem ln_198 : ("wrongs" : String).length = 6 := id rfl
@[simp] theorem ln_199 : ("x" : String).length = 1 := id rfl
@[simp] theorem ln_200 : ("y" : String).length = 1 := id rfl
@[simp] theorem ln_201 : ("z" : String).length = 1 := id rfl
@[simp] theorem ln_202 : ("zero" : String).length = 4 := id rfl
@[simp] theorem ln_203 : ("zq" : String).length = 2 := id rfl
@[simp] theorem ln_204 : ("zr" : String).length = 2 := id rfl
@[simp] theorem ln_205 : ("zs" : String).length = 2 := id rfl
@[simp] theorem ln_206 : ("zt" : String).length = 2 := id rfl
@[simp] theorem ln_207 : ("zu" : String).length = 2 := id rfl
@[simp] theorem ln_208 : ("zv" : String).length = 2 := id rfl
@[simp] theorem ln_209 : ("zw" : String).length = 2 := id rfl
@[simp] theorem ln_210 : ("zx" : String).length = 2 := id rfl
@[simp] theorem ln_211 : ("zz" : String).length = 2 := id rfl
@[simp] theorem ln_212 : ("zz zz" : String).length = 5 := id rfl
example : ((Str.ofString "put").length : Int) ≤ 8 := by simp
example : ¬ (Str.ofString "put" = Str.ofString "turn") := by simp
example : Str.ofString "Book" ++ "." ++ "markable" = Str.ofString "Book.markable" := by simp
end LS

set_option Elab.async false
set_option linter.all false
set_option maxRecDepth 100000
set_option maxHeartbeats 4000000
/-! LX1: names, kinds, columns as the program takes them. -/
namespace LS
open PySem L2
structure BkA (T : Str → Option Fn) (g : Gm) : Prop where
  isName : T "is_name" = some (.fn 2 1 [] f_is_name false)
  standsIn : T "stands_in" = some (.fn 2 2 [] f_stands_in false)
  checkFresh : T "check_fresh" = some (.fn 2 2 [] f_check_fresh false)
  kindsOf : T "kinds_of" = some (.fn 4 1 [] f_kinds_of false)
  columnRowsOf : T "column_rows_of" = some (.fn 9 2 [] f_column_rows_of false)
  menuOf : T "menu_of" = some (.fn 5 2 [] f_menu_of false)
  checksOf : T "checks_of" = some (.fn 3 2 [] f_checks_of false)
  column : T "Column" = some (.cls "Column.__init__")
  columnInit : T "Column.__init__" = some (.fn 5 5 [] f_Column_init false)
  book : T "Book" = some (.cls "Book.__init__")
  bookInit : T "Book.__init__" = some (.fn 5 4 [] f_Book_init false)
  gIsName : g.fn "is_name" = true
  gStandsIn : g.fn "stands_in" = true
  gCheckFresh : g.fn "check_fresh" = true
  gKindsOf : g.fn "kinds_of" = true
  gColumnRowsOf : g.fn "column_rows_of" = true
  gMenuOf : g.fn "menu_of" = true
  gChecksOf : g.fn "checks_of" = true
  gColumn : g.fn "Column" = true
  gBook : g.fn "Book" = true
  struck : g.glo "STRUCK" = some (.str "strike")
  letters : g.glo "LETTERS" = some (.str abc)
  fall : g.glo "FALL" = some (.str "fall")
  clear : g.glo "CLEAR" = some (.str "clear")
  fB1 : g.fld "Book" "open_kinds" = true
  fB2 : g.fld "Book" "column_rows" = true
  fB3 : g.fld "Book" "column_table" = true
  fB4 : g.fld "Book" "all_checks" = true
  fB5 : g.fld "Book" "own_checks" = true
  fC1 : g.fld "Column" "word" = true
  fC2 : g.fld "Column" "home" = true
  fC3 : g.fld "Column" "goal" = true
  fC4 : g.fld "Column" "rule" = true
theorem WX_fun {α : Type} {m : R α} {r : α} (h : WX m (fun q => q = r) fun _ _ _ => False) : m = .ok r := by
  obtain ⟨a, h1, rfl⟩ := WX_eq h
  exact h1
theorem WS_if {c : Prop} [Decidable c] {m n : RS} {Z : Po} : WS (if c then m else n) Z = ((c → WS m Z) ∧ (¬ c → WS n Z)) := by
  by_cases h : c <;> simp [h]
@[simp] theorem eq_s {x y : Str} {S : Cells} : cmpOp .eq (.v (.str x)) (.v (.str y)) S = .ok (.v (.bl (decide (x = y))), S) := id rfl
@[simp] theorem ne_s {x y : Str} {S : Cells} : cmpOp .ne (.v (.str x)) (.v (.str y)) S = .ok (.v (.bl (!decide (x = y))), S) := id rfl
@[simp] theorem eq_i {x y : Int} {S : Cells} : cmpOp .eq (.v (.int x)) (.v (.int y)) S = .ok (.v (.bl (decide (x = y))), S) := id rfl
@[simp] theorem ne_i {x y : Int} {S : Cells} : cmpOp .ne (.v (.int x)) (.v (.int y)) S = .ok (.v (.bl (!decide (x = y))), S) := id rfl
theorem bools_map : ∀ (bs : List Bool), bools (bs.map .bl) = some bs
  | [] => rfl
  | b :: bs => by simp [bools, bools_map bs]
@[simp] theorem all_map {α : Type} {xs : List α} {f : α → Bool} : bfOp .all [.lst (xs.map fun x => .bl (f x))] = some (.bl (xs.all f)) := by
  have : (xs.map fun x => P.bl (f x)) = (xs.map f).map .bl := by simp
  rw [this]
  simp only [bfOp, bools_map, Option.map_some, List.all_map]
  rfl
@[simp] theorem any_map {α : Type} {xs : List α} {f : α → Bool} : bfOp .any [.lst (xs.map fun x => .bl (f x))] = some (.bl (xs.any f)) := by
  have : (xs.map fun x => P.bl (f x)) = (xs.map f).map .bl := by simp
  rw [this]
  simp only [bfOp, bools_map, Option.map_some, List.any_map]
  rfl
@[simp] theorem wi_nil {env : Env} : wipeE env [] = env := id rfl
@[simp] theorem wi_cons {env : Env} {i : Nat} {is : List Nat} : wipeE env (i :: is) = (wipeE env is).set i none := id rfl
@[simp] theorem in_abc {c : Nat} : inP (.str ⟨#[c]⟩) (.str abc) = some (decide (low c)) := by
  simp only [inP, len1, if_true]
  congr 1
  exact decide_eq_decide.mpr mem_abc
section
variable {T : Str → Option Fn} {g : Gm} (b : BkA T g)
include b
theorem is_name_ok {d : Nat} {S : Cells} {nm : Str} (h : good nm) : callF T g (d + 1) "is_name" [.v (.str nm)] S = .ok (.v (.bl true), S) := by
  obtain ⟨h1, h2, h3, h4⟩ := h
  have hl : nm.length ≤ lim := by rw [lim_v]; omega
  refine WX_fun (call_fn b.isName rfl ?_)
  have h1' : (1 : Int) ≤ nm.length := by omega
  have h2' : (nm.length : Int) ≤ 8 := by omega
  simp [f_is_name, startE, b.struck, hl, h3, h1', h2', WS_lift, WX_bind]
  rw [lc_m nm.cps.toList (fun c => .str ⟨#[c]⟩) (fun c => .bl (decide (low c))) (by simp [-List.map_map]; rfl) rfl hl (fun y hy R => ⟨_, rfl, by simp [b.letters]⟩)]
  have e : (nm.cps.toList.all fun c => decide (low c)) = true := by
    rw [List.all_eq_true]
    exact fun c hc => decide_eq_true (h4 c hc)
  simp only [all_map, e, b_ok, bfK_1, WX_ok, end_vv, tk_self]
end
end LS

set_option Elab.async false
set_option linter.all false
set_option maxRecDepth 100000
set_option maxHeartbeats 4000000
/-! LX2: kinds and columns. -/
namespace LS
open PySem L2
def kO (k : Str × Bool) : Key × P := (.inr k.1, .bl k.2)
def kOw (k : Str × Bool) : Key × W := (.inr k.1, .v (.bl k.2))
@[simp] theorem allKP_k (ks : List (Str × Bool)) : allKP (ks.map kOw) = some (ks.map kO) := by
  induction ks with
  | nil => rfl
  | cons k ks ih => simp [kOw, kO, allKP] at ih ⊢; exact ih
theorem get_k {ks : List (Str × Bool)} {x : Str} : getK (ks.map kO) (.inr x) = (ks.lookup x).map P.bl := by
  induction ks with
  | nil => rfl
  | cons k ks ih =>
    obtain ⟨k1, k2⟩ := k
    simp only [getK, List.map_cons, List.find?_cons, kO, List.lookup_cons] at ih ⊢
    by_cases h : x = k1
    · subst h; simp
    · have h1 : (x == k1) = false := by simpa using h
      have h2 : decide ((Sum.inr k1 : Key) = Sum.inr x) = false := decide_eq_false (fun e => h (Sum.inr.inj e).symm)
      rw [h1, h2]
      exact ih
theorem has_k {ks : List (Str × Bool)} {x : Str} : (getK (ks.map kO) (.inr x)).isSome = decide (x ∈ ks.map (·.1)) := by
  rw [get_k]
  induction ks with
  | nil => rfl
  | cons k ks ih =>
    obtain ⟨k1, k2⟩ := k
    simp only [List.lookup_cons]
    by_cases h : x = k1
    · subst h; simp
    · have h1 : (x == k1) = false := by simpa using h
      rw [h1]
      simp only [List.map_cons, List.mem_cons, h, false_or]
      exact ih
@[simp] theorem in_k {ks : List (Str × Bool)} {x : Str} : inP (.str x) (.dct (ks.map kO)) = some (decide (x ∈ ks.map (·.1))) := by
  simp only [inP, keyOf, Option.map_some, has_k]
theorem setK_new {α : Type} {kvs : List (Key × α)} {k : Key} {v : α} (h : ∀ q ∈ kvs, q.1 ≠ k) : setK kvs k v = kvs ++ [(k, v)] := by
  unfold setK
  rw [if_neg]
  intro e
  obtain ⟨q, hq, e⟩ := List.any_eq_true.mp e
  exact h q hq (of_decide_eq_true e)
@[simp] theorem in_strs {x : Str} {ys : List Str} : inP (.str x) (.lst (ys.map .str)) = some (decide (x ∈ ys)) := inP_strs x ys
@[simp] theorem in_tstrs {x : Str} {ys : List Str} : inP (.str x) (.tup (ys.map .str)) = some (decide (x ∈ ys)) := inP_strs x ys
section
variable {T : Str → Option Fn} {g : Gm} (b : BkA T g)
include b
theorem stands_in_ok {d : Nat} {S : Cells} {x : Str} {p : P} {r : Bool} (h : inP (.str x) p = some r) : callF T g (d + 1) "stands_in" [.v (.str x), .v p] S = .ok (.v (.bl r), S) := by
  refine WX_fun (call_fn b.standsIn rfl ?_)
  simp [f_stands_in, startE, h]
theorem check_fresh_ok {d : Nat} {S : Cells} {x : Str} {w : W} {p : P} (hx : good x) (hv : w.view S = some p) (h : inP (.str x) p = some false) : callF T g (d + 2) "check_fresh" [.v (.str x), w] S = .ok (.v .non, S) := by
  refine WX_fun (call_fn b.checkFresh rfl ?_)
  have : cmpOp .in_ (.v (.str x)) w S = .ok (.v (.bl false), S) := by
    unfold cmpOp; rw [hv]; simp only [W.view, cmpP, h]; rfl
  simp [f_check_fresh, startE, b.gIsName, is_name_ok b hx, this]
theorem kinds_of_ok {d : Nat} {S : Cells} {ks : List (Str × Bool)} (hg : ∀ k ∈ ks, good k.1) (hn : (ks.map (·.1)).Nodup) (hl : ks.length ≤ 1000) : callF T g (d + 3) "kinds_of" [.v (.lst (ks.map pK))] S = .ok (.v (.dct (ks.map kO)), S) := by
  refine WX_fun (call_fn b.kindsOf rfl ?_)
  simp [-List.map_map, f_kinds_of, startE]
  rw [WS_seq]
  refine WS_forM ks pK (fun done env S' => ∃ o2 o3, env = [some (.v (.lst (ks.map pK))), some (.c S.length), o2, o3] ∧ S' = S ++ [.dct (done.map kOw)]) rfl ⟨none, none, rfl, rfl⟩ ?_ ?_
  · rintro done y todo env S' hy ⟨o2, o3, rfl, rfl⟩
    refine ⟨_, rfl, ?_⟩
    have hlen : done.length < lim := by
      have := congrArg List.length hy
      simp at this
      rw [lim_v]
      omega
    have hnd : y.1 ∉ done.map (·.1) := by
      rw [hy, List.map_append, List.nodup_append] at hn
      exact fun h => hn.2.2 _ h _ (by simp) rfl
    have h1 := check_fresh_ok b (d := d) (S := S ++ [.dct (done.map kOw)]) (x := y.1) (w := .c S.length) (p := .dct (done.map kO)) (hg y (by rw [hy]; simp)) (by simp [W.view, Cell.view]) (by simp only [in_k]; simpa using hnd)
    have hs : setK (done.map kOw) (.inr y.1) (.v (.bl y.2)) = (done ++ [y]).map kOw := by
      rw [setK_new]
      · simp [kOw]
      · intro q hq e
        obtain ⟨z, hz, rfl⟩ := List.mem_map.mp hq
        exact hnd (by rw [← Sum.inr.inj e]; exact List.mem_map_of_mem hz)
    have hlow : (((done ++ [y]).map kOw).all fun q => refBelow S.length q.2) = true := by
      rw [List.all_map]
      exact List.all_eq_true.mpr fun _ _ => rfl
    simp only [List.map_append, List.map_cons, List.map_nil] at hs hlow
    simp [-List.map_map, -List.map_append, b.gCheckFresh, h1, hs, hlen, hlow]
    simp
  · rintro env S' ⟨o2, o3, rfl, rfl⟩
    simp [fnEnd, Cell.view]
end
end LS

set_option Elab.async false
set_option linter.all false
set_option maxRecDepth 100000
set_option maxHeartbeats 4000000
/-! LX3: columns, menu, checks. -/
namespace LS
open PySem L2
def pCol (c : Col) : P := .obj "Column" [("word", .str c.name), ("home", .str c.home), ("goal", .str c.goal), ("rule", .str c.rule)]
def kC (c : Col) : Key × P := (.inr c.name, pCol c)
def sorts5 : List Str := ["put", "turn", "keep", "hold", "again"]
def sorts3 : List Str := ["bare", "calm", "again"]
def m5 (cs : List Str) : List Str := cs.flatMap fun c => sorts5.map fun s : Str => s ++ Str.ofString " " ++ c
def m3 (ks : List Str) : List Str := ks.flatMap fun k => sorts3.map fun s : Str => s ++ Str.ofString " " ++ k
def menuL (cs ks : List Str) : List Str := m5 cs ++ m3 ks ++ ([Str.ofString "lone", Str.ofString "fresh"] : List Str)
theorem m5_snoc (cs : List Str) (c : Str) : m5 (cs ++ [c]) = m5 cs ++ sorts5.map fun s : Str => s ++ Str.ofString " " ++ c := by simp [m5]
theorem m3_snoc (cs : List Str) (c : Str) : m3 (cs ++ [c]) = m3 cs ++ sorts3.map fun s : Str => s ++ Str.ofString " " ++ c := by simp [m3]
theorem m5_len (cs : List Str) : (m5 cs).length = 5 * cs.length := by
  induction cs with
  | nil => rfl
  | cons c cs ih => simp only [m5, List.flatMap_cons, List.length_append, List.length_map, List.length_cons] at ih ⊢; rw [ih]; simp [sorts5]; omega
theorem m3_len (cs : List Str) : (m3 cs).length = 3 * cs.length := by
  induction cs with
  | nil => rfl
  | cons c cs ih => simp only [m3, List.flatMap_cons, List.length_append, List.length_map, List.length_cons] at ih ⊢; rw [ih]; simp [sorts3]; omega
theorem s5_len : ∀ y ∈ sorts5, y.length ≤ 5 := by decide +kernel
theorem s3_len : ∀ y ∈ sorts3, y.length ≤ 5 := by decide +kernel
theorem in_app {x : Str} {ys zs : List Str} : inP (.str x) (.lst (ys.map .str ++ zs.map .str)) = some (decide (x ∈ ys ++ zs)) := by
  rw [← List.map_append]; exact in_strs
section
variable {T : Str → Option Fn} {g : Gm} (b : BkA T g)
include b
theorem column_rows_ok {d : Nat} {S : Cells} {ks : List (Str × Bool)} {cs : List Col} (h : Shape ks cs) (hl : cs.length ≤ 10) (hl2 : ks.length ≤ 10) (hfu : 100 < g.fu) :
    callF T g (d + 3) "column_rows_of" [.v (.lst (cs.map pC)), .v (.dct (ks.map kO))] S = .ok (.v (.lst (cs.map pC)), S) := by
  refine WX_fun (call_fn b.columnRowsOf rfl ?_)
  simp [-List.map_map, f_column_rows_of, startE, lim_v]
  rw [WS_seq]
  refine WS_forM cs pC (fun done env S' => ∃ o3 o4 o5 o6 o7, env = [some (.v (.lst (cs.map pC))), some (.v (.dct (ks.map kO))), some (.c S.length), o3, o4, o5, o6, o7, none] ∧ S' = S ++ [.lst ((done.map pC).map .v)]) rfl ⟨none, none, none, none, none, rfl, rfl⟩ ?_ ?_
  · rintro done c todo env S' hy ⟨o3, o4, o5, o6, o7, rfl, rfl⟩
    refine ⟨_, rfl, ?_⟩
    have hm : c ∈ cs := by rw [hy]; simp
    have hlen : done.length < lim := by
      have := congrArg List.length hy
      simp at this
      rw [lim_v]
      omega
    have hlen2 : done.length ≤ 10 := by
      have := congrArg List.length hy
      simp at this
      omega
    have hgood : good c.name := h.good _ (by simp; exact .inr ⟨c, hm, rfl⟩)
    have hnd : c.name ∉ ks.map (·.1) ++ done.map (·.name) := by
      have hn := h.nd
      rw [hy, List.map_append, ← List.append_assoc, List.nodup_append] at hn
      exact fun h => hn.2.2 _ h _ (by simp) rfl
    have h1 := check_fresh_ok b (d := d) (S := S ++ [.lst ((done.map pC).map .v)]) (x := c.name) (w := .v (.lst ((ks.map kO).map (fun z => kP z.1) ++ done.map fun c => .str c.name))) hgood rfl (by rw [show (ks.map kO).map (fun z => kP z.1) = (ks.map (·.1)).map .str by simp [kO, kP], show (done.map fun c => P.str c.name) = (done.map (·.name)).map .str by simp, in_app]; simp only [hnd, decide_false])
    have hg1 : ks.length + done.length ≤ 1000000 := by omega
    have h2 := lc_cm (C := ⟨callF T g (d + 2), g⟩) (own := [("row", 8)]) (tg := .name 8) (it := .it (.var 2)) (elt := .sub (.var 8) (.lit (.int 0))) (env := [some (.v (.lst (cs.map pC))), some (.v (.dct (ks.map kO))), some (.c S.length), some (.v (.str c.name)), some (.v (.str c.home)), some (.v (.str c.goal)), some (.v (.str c.rule)), o7, none]) (S0 := S ++ [.lst ((done.map pC).map .v)]) (S := S ++ [.lst ((done.map pC).map .v)]) (n := S.length) done pC (fun c => .str c.name) (by simp [itemsOf]) (by simp) rfl (by simp; omega) (by omega) (fun y hy R => ⟨_, rfl, by simp [pC, ixP, atI, ixN]⟩)
    have hh := stands_in_ok b (d := d + 1) (S := S ++ [.lst ((done.map pC).map .v)]) (x := c.home) (p := .dct (ks.map kO)) (r := true) (by rw [in_k]; simp only [h.home c hm, decide_true])
    have hgl := stands_in_ok b (d := d + 1) (S := S ++ [.lst ((done.map pC).map .v)]) (x := c.goal) (p := .dct (ks.map kO)) (r := true) (by rw [in_k]; simp only [h.goal c hm, decide_true])
    have hru := stands_in_ok b (d := d + 1) (S := S ++ [.lst ((done.map pC).map .v)]) (x := c.rule) (p := .tup [.str "fall", .str "clear"]) (r := true) (by
      rw [show ([.str "fall", .str "clear"] : List P) = (["fall", "clear"] : List Str).map P.str from rfl, in_tstrs]
      rcases h.rule c hm with e | e <;> simp [e])
    simp [-List.map_map, b.gCheckFresh, b.gStandsIn, b.fall, b.clear, h2, h1, hh, hgl, hru, lim_v, hg1, show done.length < 1000000 by omega]
    simp [pC]
  · rintro env S' ⟨o3, o4, o5, o6, o7, rfl, rfl⟩
    simp [-List.map_map, fnEnd, Cell.view]
end
end LS

set_option Elab.async false
set_option linter.all false
set_option maxRecDepth 100000
set_option maxHeartbeats 4000000
/-! LX4: menu, checks, a book. -/
namespace LS
open PySem L2
theorem nodup_inr {α : Type} {xs : List α} {f : α → Str} (h : (xs.map f).Nodup) : (xs.map fun y => (Sum.inr (f y) : Key)).Nodup := by
  have : (xs.map fun y => (Sum.inr (f y) : Key)) = (xs.map f).map Sum.inr := by simp
  rw [this]
  exact List.Pairwise.map _ (fun a b h e => h (Sum.inr.inj e)) h
theorem good_len {x : Str} (h : good x) : x.length ≤ 8 := h.2.1
section
variable {T : Str → Option Fn} {g : Gm} (b : BkA T g)
include b
theorem menu_of_ok {d : Nat} {S : Cells} {ks : List (Str × Bool)} {cs : List Col} (h : Shape ks cs) (hl : cs.length ≤ 10) (hl2 : ks.length ≤ 10) :
    callF T g (d + 1) "menu_of" [.v (.dct (ks.map kO)), .v (.dct (cs.map kC))] S = .ok (.v (.lst ((menuL (cs.map (·.name)) (ks.map (·.1))).map .str)), S) := by
  refine WX_fun (call_fn b.menuOf rfl ?_)
  simp [-List.map_map, f_menu_of, startE, lim_v]
  rw [WS_seq]
  refine WS_forM cs (fun c => .str c.name) (fun done env S' => ∃ o3, env = [some (.v (.dct (ks.map kO))), some (.v (.dct (cs.map kC))), some (.c S.length), o3, none] ∧ S' = S ++ [.lst (((m5 (done.map (·.name))).map P.str).map .v)]) (by simp [kC, kP]) ⟨none, rfl, rfl⟩ ?_ ?_
  · rintro done c todo env S' hy ⟨o3, rfl, rfl⟩
    refine ⟨_, rfl, ?_⟩
    have hm : c ∈ cs := by rw [hy]; simp
    have hg : c.name.length ≤ 8 := good_len (h.good _ (by simp; exact .inr ⟨c, hm, rfl⟩))
    have hlen2 : done.length ≤ 10 := by
      have := congrArg List.length hy
      simp at this
      omega
    have hle := m5_len (done.map (·.name))
    rw [List.length_map] at hle
    simp [-List.map_map, lim_v]
    rw [lc_m sorts5 .str (fun s : Str => .str (s ++ Str.ofString " " ++ c.name)) (ps := sorts5.map .str) (by simp [-List.map_map, lim_v]; exact ⟨rfl, rfl⟩) rfl (by decide) (fun y hy R => ⟨_, rfl, by
      have := s5_len y hy
      simp [-List.map_map, lim_v, show y.length ≤ 1000000 by omega, show y.length + 1 ≤ 1000000 by omega, show y.length + 1 + c.name.length ≤ 1000000 by omega]⟩)]
    simp [-List.map_map, lim_v, m5_snoc, hle, show 5 * done.length + sorts5.length ≤ 1000000 by simp [sorts5]; omega]
    simp
  · rintro env S' ⟨o3, rfl, rfl⟩
    simp [-List.map_map, lim_v]
    rw [WS_seq]
    refine WS_forM ks (fun c => .str c.1) (fun done env S' => ∃ o3, env = [some (.v (.dct (ks.map kO))), some (.v (.dct (cs.map kC))), some (.c S.length), o3, none] ∧ S' = S ++ [.lst (((m5 (cs.map (·.name)) ++ m3 (done.map (·.1))).map P.str).map .v)]) (by simp [kO, kP]) ⟨o3, rfl, by simp [m3]⟩ ?_ ?_
    · rintro done c todo env S' hy ⟨o3, rfl, rfl⟩
      refine ⟨_, rfl, ?_⟩
      have hm : c ∈ ks := by rw [hy]; simp
      have hg : c.1.length ≤ 8 := good_len (h.good _ (List.mem_append_left _ (List.mem_map_of_mem hm)))
      have hlen2 : done.length ≤ 10 := by
        have := congrArg List.length hy
        simp at this
        omega
      have hle := m5_len (cs.map (·.name))
      rw [List.length_map] at hle
      have hle3 := m3_len (done.map (·.1))
      rw [List.length_map] at hle3
      simp [-List.map_map, lim_v]
      rw [lc_m sorts3 .str (fun s : Str => .str (s ++ Str.ofString " " ++ c.1)) (ps := sorts3.map .str) (by simp [-List.map_map, lim_v]; exact ⟨rfl, rfl⟩) rfl (by decide) (fun y hy R => ⟨_, rfl, by
        have := s3_len y hy
        simp [-List.map_map, lim_v, show y.length ≤ 1000000 by omega, show y.length + 1 ≤ 1000000 by omega, show y.length + 1 + c.1.length ≤ 1000000 by omega]⟩)]
      simp [-List.map_map, lim_v, m3_snoc, hle, hle3, show 5 * cs.length + 3 * done.length + sorts3.length ≤ 1000000 by simp [sorts3]; omega]
      simp
    · rintro env S' ⟨o3, rfl, rfl⟩
      have hle := m5_len (cs.map (·.name))
      rw [List.length_map] at hle
      have hle3 := m3_len (ks.map (·.1))
      rw [List.length_map] at hle3
      simp [-List.map_map, lim_v, menuL, hle, hle3, show 5 * cs.length + (3 * ks.length + 2) ≤ 1000000 by omega]
theorem checks_of_ok {d : Nat} {S : Cells} {ch menu : List Str} (h : ∀ x ∈ ch, x ∈ menu) (hl : menu.length ≤ 1000) :
    callF T g (d + 2) "checks_of" [.v (.lst (ch.map .str)), .v (.lst (menu.map .str))] S = .ok (.v (.lst ((menu.filter fun c => decide (c ∈ ch)).map .str)), S) := by
  refine WX_fun (call_fn b.checksOf rfl ?_)
  simp [-List.map_map, f_checks_of, startE, lim_v]
  rw [WS_seq]
  refine WS_forM ch .str (fun done env S' => ∃ o2, env = [some (.v (.lst (ch.map .str))), some (.v (.lst (menu.map .str))), o2] ∧ S' = S) rfl ⟨none, rfl, rfl⟩ ?_ ?_
  · rintro done c todo env S' hy ⟨o2, rfl, rfl⟩
    refine ⟨_, rfl, ?_⟩
    have hm : c ∈ menu := h c (by rw [hy]; simp)
    have h1 := stands_in_ok b (d := d) (S := S') (x := c) (p := .lst (menu.map .str)) (r := true) (by rw [in_strs]; simp [hm])
    simp [-List.map_map, b.gStandsIn, h1]
  · rintro env S' ⟨o2, rfl, rfl⟩
    simp [-List.map_map]
    rw [lc_p menu .str (fun c => decide (c ∈ ch)) .str (ps := menu.map .str) (by simp [-List.map_map]; rfl) rfl (by rw [lim_v]; omega) (fun y hy R => ⟨_, rfl, by simp, by simp⟩)]
    simp
theorem column_ok {d : Nat} {S : Cells} {c : Col} : callF T g (d + 2) "Column" [.v (.str c.name), .v (.str c.home), .v (.str c.goal), .v (.str c.rule)] S = .ok (.v (pCol c), S) := by
  refine WX_fun (call_mk b.column (call_fn b.columnInit rfl ?_))
  simp [f_Column_init, startE, b.fC1, b.fC2, b.fC3, b.fC4, pCol]
end
/-- a book of the package -/
def pBook (ks : List (Str × Bool)) (cs : List Col) (ch : List Str) : P := .obj "Book" [("open_kinds", .dct (ks.map kO)), ("column_rows", .lst (cs.map pC)), ("column_table", .dct (cs.map kC)),
  ("all_checks", .lst ((menuL (cs.map (·.name)) (ks.map (·.1))).map .str)), ("own_checks", .lst ((((menuL (cs.map (·.name)) (ks.map (·.1))).filter fun c => decide (c ∈ ch))).map .str))]
theorem menu_len (cs ks : List Str) : (menuL cs ks).length = 5 * cs.length + 3 * ks.length + 2 := by
  simp [menuL, m5_len, m3_len]; omega
section
variable {T : Str → Option Fn} {g : Gm} (b : BkA T g)
include b
theorem book_ok {d : Nat} {S : Cells} {ks : List (Str × Bool)} {cs : List Col} {ch : List Str} (h : Shape ks cs) (hl : cs.length ≤ 10) (hl2 : ks.length ≤ 10) (hfu : 100 < g.fu) (hc : ∀ x ∈ ch, x ∈ menuL (cs.map (·.name)) (ks.map (·.1))) :
    callF T g (d + 5) "Book" [.v (.lst (ks.map pK)), .v (.lst (cs.map pC)), .v (.lst (ch.map .str))] S = .ok (.v (pBook ks cs ch), S) := by
  refine WX_fun (call_mk b.book (call_fn b.bookInit rfl ?_))
  have hkn : (ks.map (·.1)).Nodup := (List.nodup_append.mp h.nd).1
  have hcn : (cs.map (·.name)).Nodup := (List.nodup_append.mp h.nd).2.1
  have hkg : ∀ k ∈ ks, good k.1 := fun k hk => h.good _ (List.mem_append_left _ (List.mem_map_of_mem hk))
  have hcl := fun S => checks_of_ok b (d := d + 1) (S := S) (ch := ch) (menu := menuL (cs.map (·.name)) (ks.map (·.1))) hc (by rw [menu_len]; simp; omega)
  simp [-List.map_map, f_Book_init, startE, b.gKindsOf, b.gColumnRowsOf, b.gMenuOf, b.gChecksOf, b.fB1, b.fB2, b.fB3, b.fB4, b.fB5, kinds_of_ok b hkg hkn (by omega), column_rows_ok b h hl hl2 hfu]
  rw [dc_m cs pC kC (ps := cs.map pC) (by simp [-List.map_map, b.fB2]; rfl) rfl (by rw [lim_v]; omega) (nodup_inr hcn) (fun y hy R => ⟨_, rfl, by simp [pC, ixP, atI, ixN, kC, kP], by simp [pC, ixP, atI, ixN, kC, b.gColumn, column_ok b (c := y)]⟩)]
  simp [-List.map_map, b.gMenuOf, b.gChecksOf, b.fB1, b.fB2, b.fB3, b.fB4, b.fB5, menu_of_ok b h hl hl2, hcl, pBook]
end
end LS

set_option Elab.async false
set_option linter.all false
set_option maxRecDepth 100000
set_option maxHeartbeats 4000000
/-! LX5: the law's own books: a dict, as a value or a cell. -/
namespace LS
open PySem L2
def bkD (ks : List (Str × Bool)) (cs : List Col) (ch : List Str) : List (Key × P) := [(.inr "kinds", .lst (ks.map pK)), (.inr "columns", .lst (cs.map pC)), (.inr "checks", .lst (ch.map .str))]
def pB (ks : List (Str × Bool)) (cs : List Col) (ch : List Str) : P := .dct (bkD ks cs ch)
def cB (ks : List (Str × Bool)) (cs : List Col) (ch : List Str) : Cell := .dct ((bkD ks cs ch).map fun z => (z.1, .v z.2))
@[simp] theorem gk_cons {α : Type} {k x : Key} {v : α} {r : List (Key × α)} : getK ((k, v) :: r) x = if k = x then some v else getK r x := by
  by_cases h : k = x
  · simp [getK, List.find?_cons, h]
  · simp [getK, List.find?_cons, h]
@[simp] theorem gk_nil {α : Type} {x : Key} : getK ([] : List (Key × α)) x = none := id rfl
/-- a book of the law's own stands there, whatever comes behind -/
structure BAt (w : W) (S : Cells) (ks : List (Str × Bool)) (cs : List Col) (ch : List Str) : Prop where
  kinds : ∀ l, subOp w (.v (.str "kinds")) (S ++ l) = .ok (.v (.lst (ks.map pK)), S ++ l)
  columns : ∀ l, subOp w (.v (.str "columns")) (S ++ l) = .ok (.v (.lst (cs.map pC)), S ++ l)
  checks : ∀ l, subOp w (.v (.str "checks")) (S ++ l) = .ok (.v (.lst (ch.map .str)), S ++ l)
theorem BAt.app {w : W} {S : Cells} {ks : List (Str × Bool)} {cs : List Col} {ch : List Str} (h : BAt w S ks cs ch) (r : Cells) : BAt w (S ++ r) ks cs ch :=
  ⟨fun l => by rw [List.append_assoc]; exact h.kinds _, fun l => by rw [List.append_assoc]; exact h.columns _, fun l => by rw [List.append_assoc]; exact h.checks _⟩
theorem BAt.k0 {w : W} {S : Cells} {ks : List (Str × Bool)} {cs : List Col} {ch : List Str} (h : BAt w S ks cs ch) : subOp w (.v (.str "kinds")) S = .ok (.v (.lst (ks.map pK)), S) := by simpa using h.kinds []
theorem BAt.c0 {w : W} {S : Cells} {ks : List (Str × Bool)} {cs : List Col} {ch : List Str} (h : BAt w S ks cs ch) : subOp w (.v (.str "columns")) S = .ok (.v (.lst (cs.map pC)), S) := by simpa using h.columns []
theorem BAt.h0 {w : W} {S : Cells} {ks : List (Str × Bool)} {cs : List Col} {ch : List Str} (h : BAt w S ks cs ch) : subOp w (.v (.str "checks")) S = .ok (.v (.lst (ch.map .str)), S) := by simpa using h.checks []
theorem bat_v {S : Cells} {ks : List (Str × Bool)} {cs : List Col} {ch : List Str} : BAt (.v (pB ks cs ch)) S ks cs ch :=
  ⟨fun l => by simp [pB, bkD, ixP, keyOf], fun l => by simp [pB, bkD, ixP, keyOf], fun l => by simp [pB, bkD, ixP, keyOf]⟩
theorem bat_c {S : Cells} {n : Nat} {ks : List (Str × Bool)} {cs : List Col} {ch : List Str} (h : S[n]? = some (cB ks cs ch)) : BAt (.c n) S ks cs ch := by
  have hl : ∀ l, (S ++ l)[n]? = some (cB ks cs ch) := fun l => by rw [List.getElem?_append_left (List.getElem?_eq_some_iff.mp h).1]; exact h
  exact ⟨fun l => by rw [sub_c, hl]; simp [cB, bkD], fun l => by rw [sub_c, hl]; simp [cB, bkD], fun l => by rw [sub_c, hl]; simp [cB, bkD]⟩
structure LwA (T : Str → Option Fn) (g : Gm) : Prop where
  allChecks : T "_law_all_checks" = some (.fn 5 1 [] f__law_all_checks false)
  gAll : g.fn "_law_all_checks" = true
  checked : T "_law_checked" = some (.fn 5 2 [] f__law_checked false)
  gChecked : g.fn "_law_checked" = true
  draw : T "_law_draw" = some (.fn 4 2 [] f__law_draw false)
  gDraw : g.fn "_law_draw" = true
  same : T "_law_same" = some (.fn 2 2 [] f__law_same false)
  gSame : g.fn "_law_same" = true
section
variable {T : Str → Option Fn} {g : Gm} (b : LwA T g)
include b
theorem all_checks_ok {d : Nat} {S : Cells} {w : W} {ks : List (Str × Bool)} {cs : List Col} {ch : List Str} (hw : BAt w S ks cs ch) (h : Shape ks cs) (hl : cs.length ≤ 10) (hl2 : ks.length ≤ 10) :
    callF T g (d + 1) "_law_all_checks" [w] S = .ok (.v (.lst ((menuL (cs.map (·.name)) (ks.map (·.1))).map .str)), S) := by
  refine WX_fun (call_fn b.allChecks rfl ?_)
  simp [-List.map_map, f__law_all_checks, startE, lim_v, hw.columns]
  rw [WS_seq]
  refine WS_forM cs pC (fun done env S' => ∃ o2, env = [some w, some (.c S.length), o2, none, none] ∧ S' = S ++ [.lst (((m5 (done.map (·.name))).map P.str).map .v)]) rfl ⟨none, rfl, rfl⟩ ?_ ?_
  · rintro done c todo env S' hy ⟨o3, rfl, rfl⟩
    refine ⟨_, rfl, ?_⟩
    have hm : c ∈ cs := by rw [hy]; simp
    have hg : c.name.length ≤ 8 := good_len (h.good _ (by simp; exact .inr ⟨c, hm, rfl⟩))
    have hlen2 : done.length ≤ 10 := by
      have := congrArg List.length hy
      simp at this
      omega
    have hle := m5_len (done.map (·.name))
    rw [List.length_map] at hle
    simp [-List.map_map, lim_v]
    rw [lc_m sorts5 .str (fun s : Str => .str (s ++ Str.ofString " " ++ c.name)) (ps := sorts5.map .str) (by simp [-List.map_map, lim_v]; exact ⟨rfl, rfl⟩) rfl (by decide) (fun y hy R => ⟨_, rfl, by
      have := s5_len y hy
      simp [-List.map_map, lim_v, show y.length ≤ 1000000 by omega, show y.length + 1 ≤ 1000000 by omega, show y.length + 1 + c.name.length ≤ 1000000 by omega, pC, ixP, atI, ixN]⟩)]
    simp [-List.map_map, lim_v, m5_snoc, hle, show 5 * done.length + sorts5.length ≤ 1000000 by simp [sorts5]; omega]
    simp
  · rintro env S' ⟨o3, rfl, rfl⟩
    simp [-List.map_map, lim_v, hw.kinds]
    rw [WS_seq]
    refine WS_forM ks pK (fun done env S' => ∃ o2 o3, env = [some w, some (.c S.length), o2, o3, none] ∧ S' = S ++ [.lst (((m5 (cs.map (·.name)) ++ m3 (done.map (·.1))).map P.str).map .v)]) rfl ⟨o3, none, rfl, by simp [m3]⟩ ?_ ?_
    · rintro done c todo env S' hy ⟨o2, o3, rfl, rfl⟩
      refine ⟨_, rfl, ?_⟩
      have hm : c ∈ ks := by rw [hy]; simp
      have hg : c.1.length ≤ 8 := good_len (h.good _ (List.mem_append_left _ (List.mem_map_of_mem hm)))
      have hlen2 : done.length ≤ 10 := by
        have := congrArg List.length hy
        simp at this
        omega
      have hle := m5_len (cs.map (·.name))
      rw [List.length_map] at hle
      have hle3 := m3_len (done.map (·.1))
      rw [List.length_map] at hle3
      simp [-List.map_map, lim_v]
      rw [lc_m sorts3 .str (fun s : Str => .str (s ++ Str.ofString " " ++ c.1)) (ps := sorts3.map .str) (by simp [-List.map_map, lim_v]; exact ⟨rfl, rfl⟩) rfl (by decide) (fun y hy R => ⟨_, rfl, by
        have := s3_len y hy
        simp [-List.map_map, lim_v, show y.length ≤ 1000000 by omega, show y.length + 1 ≤ 1000000 by omega, show y.length + 1 + c.1.length ≤ 1000000 by omega, pK, ixP, atI, ixN]⟩)]
      simp [-List.map_map, lim_v, m3_snoc, hle, hle3, show 5 * cs.length + 3 * done.length + sorts3.length ≤ 1000000 by simp [sorts3]; omega]
      simp
    · rintro env S' ⟨o2, o3, rfl, rfl⟩
      have hle := m5_len (cs.map (·.name))
      rw [List.length_map] at hle
      have hle3 := m3_len (ks.map (·.1))
      rw [List.length_map] at hle3
      simp [-List.map_map, lim_v, menuL, hle, hle3, show 5 * cs.length + 3 * ks.length + 2 ≤ 1000000 by omega]
end
end LS

set_option Elab.async false
set_option linter.all false
set_option maxRecDepth 100000
set_option maxHeartbeats 4000000
/-! LX6: drawn checks. -/
namespace LS
open PySem L2
def BAtR (w : W) (rest : Cells) (ks : List (Str × Bool)) (cs : List Col) (ch : List Str) : Prop := ∀ s : Sm, BAt w (s.cells rest) ks cs ch
theorem dic_bk {S : Cells} {ks : List (Str × Bool)} {cs : List Col} {ch : List Str} : dicK false S.length ([(.inr "kinds", .v (.lst (ks.map pK))), (.inr "columns", .v (.lst (cs.map pC))), (.inr "checks", .v (.lst (ch.map .str)))], S ++ [.dct []]) = .ok (.v (pB ks cs ch), S) :=
  dic_pl (kvs := bkD ks cs ch) (by simp [bkD]) (by simp [bkD])
@[simp] theorem dic_bkS {s : Sm} {rest : Cells} {ks : List (Str × Bool)} {cs : List Col} {ch : List Str} : dicK false (rest.length + 2) ([(.inr "kinds", .v (.lst (ks.map pK))), (.inr "columns", .v (.lst (cs.map pC))), (.inr "checks", .v (.lst (ch.map .str)))], s.cells (rest ++ [.dct []])) = .ok (.v (pB ks cs ch), s.cells rest) := by
  have := dic_bk (S := s.cells rest) (ks := ks) (cs := cs) (ch := ch)
  simpa using this
theorem at_ints {l : List Int} {r : Int} (h0 : 0 ≤ r) (h : r < l.length) : ∃ x, x ∈ l ∧ ixP (.lst (l.map .int)) (.int r) = some (.int x) := by
  obtain ⟨p, hp, e⟩ := lst_at (ps := l.map P.int) h0 (by simpa using h)
  obtain ⟨x, hx, rfl⟩ := List.mem_map.mp hp
  exact ⟨x, hx, e⟩
section
variable {T : Str → Option Fn} {g : Gm} (b : LwA T g)
include b
theorem checked_ok {d : Nat} {s : Sm} {rest : Cells} {B : Int} {w : W} {ks : List (Str × Bool)} {cs : List Col} {ch0 : List Str} {Q : W × Cells → Prop} {E : XQ} (hw : BAtR w rest ks cs ch0) (h : Shape ks cs) (hl : cs.length ≤ 10) (hl2 : ks.length ≤ 10) (hs : s.ok B) (hB : B + 200 < 1000000)
    (k : ∀ (s' : Sm) (ch : List Str), s'.ok (B + 100) → ch.Sublist (menuL (cs.map (·.name)) (ks.map (·.1))) → Q (.v (pB ks cs ch), s'.cells rest)) : WX (callF T g (d + 2) "_law_checked" [.c 1, w] (s.cells rest)) Q E := by
  refine call_fn b.checked rfl ?_
  simp [-List.map_map, f__law_checked, startE, lim_v, b.gDraw]
  rw [WS_lift, WX_bind]
  refine WX_draw b.draw (B := B) hs (by omega) (by decide) (by decide) fun s1 r hs1 h0 h1 => ?_
  obtain ⟨sh, -, he⟩ := at_ints (l := [0, 2, 4, 6, 9, 12]) h0 h1
  simp at he
  simp [he]
  rw [WS_lift]
  have hmen : (menuL (cs.map (·.name)) (ks.map (·.1))).length ≤ 82 := by rw [menu_len]; simp; omega
  refine WX_lc famS (Inv := fun xs acc s => ∃ done todo got, menuL (cs.map (·.name)) (ks.map (·.1)) = done ++ todo ∧ xs = (todo.map P.str).map W.v ∧ acc = got.map P.str ∧ got.Sublist done ∧ s.ok (B + 1 + done.length)) (xs := ((menuL (cs.map (·.name)) (ks.map (·.1))).map P.str).map W.v) (s := s1) (rest := rest) ?_ (by simp; rw [lim_v]; omega) ⟨[], _, [], rfl, rfl, rfl, List.Sublist.refl _, by simpa using hs1⟩ ?_ ?_
  · simp [-List.map_map, b.gAll, all_checks_ok b (hw s1) h hl hl2]
    rfl
  · rintro x xs acc s ⟨done, todo, got, h1, h2, rfl, h4, h5⟩
    cases todo with
    | nil => cases h2
    | cons y todo =>
      cases h2
      refine ⟨_, rfl, ?_⟩
      have hlen : done.length ≤ 82 := by
        have := congrArg List.length h1
        simp at this
        omega
      simp [-List.map_map, b.gDraw, famS]
      rw [WX_bind]
      refine WX_draw b.draw (B := B + 1 + done.length) h5 (by omega) (by decide) (by decide) fun s2 r2 hs2 h02 h12 => ?_
      simp
      refine ⟨s2, rfl, fun _ => ⟨done ++ [y], todo, by simp [h1], rfl, got, rfl, h4.trans (List.sublist_append_left _ _), ?_⟩, fun _ => ⟨_, s2, ⟨rfl, rfl⟩, done ++ [y], todo, by simp [h1], rfl, got ++ [y], by simp, h4.append (List.Sublist.refl _), ?_⟩⟩
      · simp; exact hs2.mono (by omega)
      · simp; exact hs2.mono (by omega)
  · rintro ps s2 ⟨done, todo, got, h1, h2, rfl, h4, h5⟩
    cases todo with
    | cons _ _ => cases h2
    | nil =>
      rw [List.append_nil] at h1
      have hlen : done.length ≤ 82 := by rw [← h1]; exact hmen
      have hk := (hw s2).kinds
      have hc := (hw s2).columns
      simp at hk hc
      simp [-List.map_map, famS, hk, hc]
      exact k s2 got (h5.mono (by omega)) (h1 ▸ h4)
end
end LS

set_option Elab.async false
set_option linter.all false
set_option maxRecDepth 100000
set_option maxHeartbeats 4000000
/-! LX7: which kinds can come to be marked: the mathematics. -/
namespace LS
open PySem L2
inductive Reach (ks : List (Str × Bool)) (cs : List Col) : Str → Prop where
  | op {k : Str} : (k, true) ∈ ks → Reach ks cs k
  | fall {c : Col} : c ∈ cs → c.rule = "fall" → Reach ks cs c.goal → Reach ks cs c.home
def comesB (ks : List (Str × Bool)) (cs : List Col) : Nat → Str → Bool
  | 0, k => decide ((k, true) ∈ ks)
  | n + 1, k => decide ((k, true) ∈ ks) || cs.any fun c => decide (c.home = k) && (decide (c.rule = "fall") && comesB ks cs n c.goal)
theorem comes_reach {ks : List (Str × Bool)} {cs : List Col} : ∀ {n : Nat} {k : Str}, comesB ks cs n k = true → Reach ks cs k
  | 0, k, h => .op (of_decide_eq_true h)
  | n + 1, k, h => by
    simp only [comesB, Bool.or_eq_true, List.any_eq_true, Bool.and_eq_true, decide_eq_true_eq] at h
    rcases h with h | ⟨c, hc, rfl, h1, h2⟩
    · exact .op h
    · exact .fall hc h1 (comes_reach h2)
theorem comes_succ {ks : List (Str × Bool)} {cs : List Col} : ∀ {n : Nat} {k : Str}, comesB ks cs n k = true → comesB ks cs (n + 1) k = true
  | 0, k, h => by
    have h : decide ((k, true) ∈ ks) = true := h
    simp only [comesB, h, Bool.true_or]
  | n + 1, k, h => by
    simp only [comesB, Bool.or_eq_true, List.any_eq_true, Bool.and_eq_true, decide_eq_true_eq] at h
    rcases h with h | ⟨c, hc, rfl, h1, h2⟩
    · unfold comesB; simp [h]
    · unfold comesB
      simp only [Bool.or_eq_true, List.any_eq_true, Bool.and_eq_true, decide_eq_true_eq]
      exact .inr ⟨c, hc, rfl, h1, comes_succ h2⟩
theorem filter_lt {α : Type} {p q : α → Bool} : ∀ {l : List α}, (∀ x ∈ l, p x = true → q x = true) → (∃ x ∈ l, q x = true ∧ p x = false) → (l.filter p).length < (l.filter q).length
  | [], _, ⟨_, h, _⟩ => by cases h
  | a :: l, hpq, ⟨x, hx, h1, h2⟩ => by
    have hle : (l.filter p).length ≤ (l.filter q).length := by
      have : ∀ (m : List α), (∀ x ∈ m, p x = true → q x = true) → (m.filter p).length ≤ (m.filter q).length := by
        intro m
        induction m with
        | nil => intro _; simp
        | cons y m ih =>
          intro hm
          have := ih fun x hx => hm x (List.mem_cons_of_mem _ hx)
          have hy := hm y (by simp)
          cases hp : p y with
          | true => simp [hp, hy hp]; exact this
          | false => cases hq : q y <;> simp [hp, hq] <;> omega
      exact this l fun x hx => hpq x (List.mem_cons_of_mem _ hx)
    rcases List.mem_cons.mp hx with rfl | hx
    · simp [h1, h2]; omega
    · have ih := filter_lt (l := l) (fun x hx => hpq x (List.mem_cons_of_mem _ hx)) ⟨x, hx, h1, h2⟩
      have ha := hpq a (by simp)
      cases hp : p a with
      | true => simp [hp, ha hp]; exact ih
      | false => cases hq : q a <;> simp [hp, hq] <;> omega
/-- closed under fall columns -/
def Clo (ks : List (Str × Bool)) (cs : List Col) (p : Str → Bool) : Prop := ∀ c ∈ cs, c.rule = "fall" → p c.goal = true → p c.home = true
theorem clo_reach {ks : List (Str × Bool)} {cs : List Col} {p : Str → Bool} (h0 : ∀ k, (k, true) ∈ ks → p k = true) (h : Clo ks cs p) : ∀ {k : Str}, Reach ks cs k → p k = true := fun hr => by
  induction hr with
  | op h => exact h0 _ h
  | fall hc hr _ ih => exact h _ hc hr ih
theorem clo_at {ks : List (Str × Bool)} {cs : List Col} (h : Shape ks cs) : ∀ n : Nat, Clo ks cs (comesB ks cs n) ∨ n ≤ ((ks.map (·.1)).filter (comesB ks cs n)).length
  | 0 => .inr (Nat.zero_le _)
  | n + 1 => by
    by_cases hc : Clo ks cs (comesB ks cs n)
    · left
      have same : ∀ k, comesB ks cs (n + 1) k = true → comesB ks cs n k = true := fun k hk => clo_reach (fun k' hk' => by
        cases n with
        | zero => exact decide_eq_true hk'
        | succ n => simp [comesB, hk']) hc (comes_reach hk)
      exact fun c hcm hr hg => comes_succ (hc c hcm hr (same _ hg))
    · right
      rcases clo_at h n with h' | h'
      · exact absurd h' hc
      · have : ∃ c ∈ cs, c.rule = "fall" ∧ comesB ks cs n c.goal = true ∧ comesB ks cs n c.home = false := by
          apply Classical.byContradiction
          intro hne
          apply hc
          intro c hcm hr hg
          apply Classical.byContradiction
          intro hh
          exact hne ⟨c, hcm, hr, hg, by simpa using hh⟩
        obtain ⟨c, hcm, hr, hg, hh⟩ := this
        have := filter_lt (l := ks.map (·.1)) (p := comesB ks cs n) (q := comesB ks cs (n + 1)) (fun x _ hx => comes_succ hx) ⟨c.home, h.home c hcm, by
          unfold comesB
          simp only [Bool.or_eq_true, List.any_eq_true, Bool.and_eq_true, decide_eq_true_eq]
          exact .inr ⟨c, hcm, rfl, hr, hg⟩, hh⟩
        omega
theorem comes_iff {ks : List (Str × Bool)} {cs : List Col} (h : Shape ks cs) {n : Nat} (hn : ks.length ≤ n) {k : Str} : comesB ks cs n k = true ↔ Reach ks cs k := by
  refine ⟨comes_reach, fun hr => clo_reach (fun k hk => ?_) ?_ hr⟩
  · cases n with
    | zero => exact decide_eq_true hk
    | succ n => simp [comesB, hk]
  · rcases clo_at h n with h' | h'
    · exact h'
    · have he : ((ks.map (·.1)).filter (comesB ks cs n)).length = (ks.map (·.1)).length := by
        have := List.length_filter_le (comesB ks cs n) (ks.map (·.1))
        rw [List.length_map] at this ⊢
        omega
      have := List.length_filter_eq_length_iff.mp he
      exact fun c hcm hr _ => this _ (h.home c hcm)
/-- the kinds that can come to be marked, in order -/
def markL (ks : List (Str × Bool)) (cs : List Col) : List Str := (ks.map (·.1)).filter (comesB ks cs ks.length)
theorem mark_eq {ks : List (Str × Bool)} {cs : List Col} (h : Shape ks cs) {p : Str → Bool} (hp : ∀ k ∈ ks.map (·.1), p k = true ↔ Reach ks cs k) : (ks.map (·.1)).filter p = markL ks cs := by
  unfold markL
  apply List.filter_congr
  intro k hk
  rw [Bool.eq_iff_iff, hp k hk, comes_iff h (Nat.le_refl _)]
end LS

set_option Elab.async false
set_option linter.all false
set_option maxRecDepth 100000
set_option maxHeartbeats 4000000
/-! LX8: Book.markable. -/
namespace LS
open PySem L2
section
variable {Z : Po} {test : Env → Cells → R (Bool × Cells)} {body : Env → Cells → RS}
/-- a while loop by a measure -/
theorem WS_while (I : Nat → Env → Cells → Prop) (step : ∀ m env S, I m env S → WX (test env S) (fun q => if q.1 = true then WS (body env q.2) ⟨fun e s => ∃ m', m' < m ∧ I m' e s, Z.rt, Z.nx, fun e s => ∃ m', m' < m ∧ I m' e s, Z.ex⟩ else Z.nx env q.2) fun c fs S => Z.ex c fs env S) :
    ∀ (fu m : Nat) (env : Env) (S : Cells), m < fu → I m env S → WS (whileN test body fu env S) Z
  | 0, m, env, S, h, _ => by omega
  | fu + 1, m, env, S, h, hI => by
    unfold whileN
    rw [WS_lift]
    refine WX_mono (step m env S hI) fun q hq => ?_
    by_cases hb : q.1 = true
    · rw [if_pos hb] at hq
      rw [if_pos hb]
      cases hbd : body env q.2 with
      | nx e s => rw [hbd] at hq; obtain ⟨m', h1, h2⟩ := hq; exact WS_while I step fu m' e s (by omega) h2
      | ct e s => rw [hbd] at hq; obtain ⟨m', h1, h2⟩ := hq; exact WS_while I step fu m' e s (by omega) h2
      | bk e s => rw [hbd] at hq; exact hq
      | ret w s => rw [hbd] at hq; exact hq
      | ex c fs e s => rw [hbd] at hq; exact hq
      | no => rw [hbd] at hq; exact hq.elim
    · rw [if_neg hb] at hq
      rw [if_neg hb]
      exact hq
end
def mkBody (c : Bool) : S :=
  (.cons (.set 1 (.lc false [("kind", 5)] (.name 5) (.it (.att (.var 0) "open_kinds")) (.cons (.sub (.att (.var 0) "open_kinds") (.var 5)) .nil) (.var 5)))
  (.cons (.set 2 (.var 1))
  (.cons (.whl (.cmp .gt (.bf .len (.cons (.var 2) .nil)) (.lit (.int 0))) (.cons (.set 3 (.lc false [("column", 6)] (.name 6) (.vals (.att (.var 0) "column_table")) (.cons (.cmp .eq (.att (.var 6) "rule") (.glo "FALL")) .nil) (.var 6)))
  (.cons (.set 4 (.lc false [("column", 6)] (.name 6) (.it (.var 3)) (.cons (.cmp .in_ (.att (.var 6) "goal") (.var 1)) .nil) (.att (.var 6) "home")))
  (.cons (.set 2 (.lc false [("kind", 5)] (.name 5) (.it (.att (.var 0) "open_kinds")) (.cons (.and (.cmp .in_ (.var 5) (.var 4)) (.cmp .nin (.var 5) (.var 1))) .nil) (.var 5)))
  (.cons (.set 1 (.bin .add (.var 1) (.var 2)))
  .nil)))))
  (.cons (.ret (.lc c [("kind", 5)] (.name 5) (.it (.att (.var 0) "open_kinds")) (.cons (.cmp .in_ (.var 5) (.var 1)) .nil) (.var 5)))
  .nil))))
theorem lookup_mem {ks : List (Str × Bool)} (hn : (ks.map (·.1)).Nodup) {k : Str × Bool} (hk : k ∈ ks) : ks.lookup k.1 = some k.2 := by
  induction ks with
  | nil => cases hk
  | cons a ks ih =>
    obtain ⟨a1, a2⟩ := a
    rw [lk_cons]
    simp only [List.map_cons, List.nodup_cons] at hn
    rcases List.mem_cons.mp hk with rfl | hk
    · simp
    · rw [if_neg (fun e => hn.1 (by rw [← e]; exact List.mem_map_of_mem hk))]
      exact ih hn.2 hk
/-- what a walk through the kinds may have found -/
structure Found (ks : List (Str × Bool)) (cs : List Col) (found : List Str) : Prop where
  nd : found.Nodup
  sub : ∀ k ∈ found, k ∈ ks.map (·.1)
  op : ∀ k, (k, true) ∈ ks → k ∈ found
  reach : ∀ k ∈ found, Reach ks cs k
def fallB (c : Col) : Bool := decide (c.rule = Str.ofString "fall")
def nextL (ks : List (Str × Bool)) (cs : List Col) (found : List Str) : List Str := (ks.map (·.1)).filter fun k => decide (k ∈ ((cs.filter fallB).filter fun c : Col => decide (c.goal ∈ found)).map (·.home)) && !decide (k ∈ found)
theorem next_found {ks : List (Str × Bool)} {cs : List Col} (h : Shape ks cs) {found : List Str} (f : Found ks cs found) : Found ks cs (found ++ nextL ks cs found) where
  nd := by
    rw [List.nodup_append]
    refine ⟨f.nd, (List.nodup_append.mp h.nd).1.filter _, fun a ha b hb e => ?_⟩
    subst e
    simp [nextL] at hb
    exact hb.2.2 ha
  sub := fun k hk => by
    rcases List.mem_append.mp hk with hk | hk
    · exact f.sub k hk
    · exact (List.mem_filter.mp hk).1
  op := fun k hk => List.mem_append_left _ (f.op k hk)
  reach := fun k hk => by
    rcases List.mem_append.mp hk with hk | hk
    · exact f.reach k hk
    · have := (List.mem_filter.mp hk).2
      simp only [Bool.and_eq_true, decide_eq_true_eq, List.mem_map, List.mem_filter] at this
      obtain ⟨⟨c, ⟨⟨hc, hr⟩, hg⟩, rfl⟩, _⟩ := this
      exact .fall hc (of_decide_eq_true hr) (f.reach _ hg)
theorem next_nil {ks : List (Str × Bool)} {cs : List Col} (h : Shape ks cs) {found : List Str} (f : Found ks cs found) (e : nextL ks cs found = []) (k : Str) : k ∈ found ↔ Reach ks cs k := by
  refine ⟨f.reach k, fun hr => ?_⟩
  have := clo_reach (p := fun k => decide (k ∈ found)) (fun k hk => decide_eq_true (f.op k hk)) (fun c hc hr hg => by
    apply decide_eq_true
    apply Classical.byContradiction
    intro hn
    have hm : c.home ∈ nextL ks cs found := by
      apply List.mem_filter.mpr
      refine ⟨h.home c hc, ?_⟩
      simp only [Bool.and_eq_true, decide_eq_true_eq, Bool.not_eq_true', decide_eq_false_iff_not]
      refine ⟨List.mem_map.mpr ⟨c, List.mem_filter.mpr ⟨List.mem_filter.mpr ⟨hc, decide_eq_true hr⟩, hg⟩, rfl⟩, hn⟩
    rw [e] at hm
    cases hm) hr
  exact of_decide_eq_true this
section
variable {T : Str → Option Fn} {g : Gm} (b : BkA T g)
include b
theorem markable_ok {d : Nat} {S : Cells} {ks : List (Str × Bool)} {cs : List Col} {ch : List Str} {c : Bool} (hT : T "Book.markable" = some (.fn 7 1 [] (mkBody c) c)) (h : Shape ks cs) (hl : cs.length ≤ 10) (hl2 : ks.length ≤ 10) (hfu : 100 < g.fu) :
    callF T g (d + 1) "Book.markable" [.v (pBook ks cs ch)] S = .ok (if c = true then (.c S.length, S ++ [.lst (((markL ks cs).map P.str).map .v)]) else (.v (.lst ((markL ks cs).map .str)), S)) := by
  refine WX_fun (call_fn hT rfl ?_)
  obtain ⟨pb, hpb⟩ : ∃ p, p = pBook ks cs ch := ⟨_, rfl⟩
  have a1 : ∀ S, attOp g.fld (.v pb) "open_kinds" S = .ok (.v (.dct (ks.map kO)), S) := fun S => by simp [hpb, pBook, b.fB1]
  have a2 : ∀ S, attOp g.fld (.v pb) "column_table" S = .ok (.v (.dct (cs.map kC)), S) := fun S => by simp [hpb, pBook, b.fB3]
  have c1 : ∀ (c : Col) S, attOp g.fld (.v (pCol c)) "rule" S = .ok (.v (.str c.rule), S) := fun c S => by simp [pCol, b.fC4]
  have c2 : ∀ (c : Col) S, attOp g.fld (.v (pCol c)) "goal" S = .ok (.v (.str c.goal), S) := fun c S => by simp [pCol, b.fC3]
  have c3 : ∀ (c : Col) S, attOp g.fld (.v (pCol c)) "home" S = .ok (.v (.str c.home), S) := fun c S => by simp [pCol, b.fC2]
  rw [← hpb]
  have hlk : ∀ k ∈ ks, ks.lookup k.1 = some k.2 := fun k hk => lookup_mem (List.nodup_append.mp h.nd).1 hk
  simp [-List.map_map, -List.filter_filter, mkBody, startE, a1]
  rw [lc_p ks (fun k => .str k.1) (fun k => k.2) (fun k => .str k.1) (by simp [-List.map_map, -List.filter_filter, a1]; exact ⟨rfl, rfl⟩) (by simp [kO, kP]) (by rw [lim_v]; omega) (fun y hy R => ⟨_, rfl, by simp [a1, ixP, keyOf, get_k, hlk y hy], by simp⟩)]
  simp [-List.map_map, -List.filter_filter]
  rw [WS_seq]
  have hkn : (ks.map (·.1)).Nodup := (List.nodup_append.mp h.nd).1
  have f0 : Found ks cs ((ks.filter (·.2)).map (·.1)) := {
    nd := hkn.sublist (List.filter_sublist.map _)
    sub := fun k hk => by
      obtain ⟨x, hx, rfl⟩ := List.mem_map.mp hk
      exact List.mem_map_of_mem (List.mem_filter.mp hx).1
    op := fun k hk => List.mem_map.mpr ⟨(k, true), List.mem_filter.mpr ⟨hk, rfl⟩, rfl⟩
    reach := fun k hk => by
      obtain ⟨⟨x, o⟩, hx, rfl⟩ := List.mem_map.mp hk
      obtain ⟨h1, h2⟩ := List.mem_filter.mp hx
      have h2 : o = true := h2
      subst h2
      exact .op h1 }
  have hle : ∀ {found}, Found ks cs found → found.length ≤ ks.length := fun {found} f => by
    have := f.nd.length_le_of_subset (l₂ := ks.map (·.1)) fun k hk => f.sub k hk
    simpa using this
  have e0 : (ks.filter fun k => k.2).map (fun k => P.str k.1) = ((ks.filter (·.2)).map (·.1)).map P.str := by simp
  rw [e0]
  refine WS_while (fun m env S' => ∃ found more o3 o4, env = [some (.v pb), some (.v (.lst (found.map P.str))), some (.v (.lst (more.map P.str))), o3, o4, none, none] ∧ S' = S ∧ Found ks cs found ∧ (more = [] → nextL ks cs found = []) ∧ m = ks.length - found.length + (if more = [] then 0 else 1)) ?_ g.fu _ _ _ ?_ ⟨_, _, none, none, rfl, rfl, f0, ?_, rfl⟩
  · rintro m env S' ⟨found, more, o3, o4, rfl, rfl, f, hm, rfl⟩
    simp [-List.map_map, -List.filter_filter, evT]
    by_cases hmore : more = []
    · subst hmore
      simp [-List.map_map, -List.filter_filter]
      have hr := next_nil h f (hm rfl)
      have hfin : (ks.map (·.1)).filter (fun k => decide (k ∈ found)) = markL ks cs := mark_eq h fun k _ => by rw [decide_eq_true_iff]; exact hr k
      have hfin2 : (ks.filter fun k => decide (k.1 ∈ found)).map (fun k => P.str k.1) = (markL ks cs).map P.str := by
        rw [← hfin, List.filter_map, List.map_map]
        rfl
      cases c with
      | true =>
        rw [lc_pT ks (fun k => .str k.1) (fun k => decide (k.1 ∈ found)) (fun k => .str k.1) (by simp [-List.map_map, -List.filter_filter, a1]; exact ⟨rfl, rfl⟩) (by simp [kO, kP]) (by rw [lim_v]; omega) (fun y hy R => ⟨_, rfl, by simp, by simp⟩)]
        rw [hfin2]
        simp [-List.map_map, -List.filter_filter]
      | false =>
        rw [lc_p ks (fun k => .str k.1) (fun k => decide (k.1 ∈ found)) (fun k => .str k.1) (by simp [-List.map_map, -List.filter_filter, a1]; exact ⟨rfl, rfl⟩) (by simp [kO, kP]) (by rw [lim_v]; omega) (fun y hy R => ⟨_, rfl, by simp, by simp⟩)]
        rw [hfin2]
        simp [-List.map_map, -List.filter_filter]
    · have hpos : 0 < more.length := List.length_pos_iff.mpr hmore
      rw [if_pos (by simpa using hpos)]
      rw [lc_p cs pCol fallB pCol (by simp [-List.map_map, -List.filter_filter, a2]; exact ⟨rfl, rfl⟩) (by simp [kC]) (by rw [lim_v]; omega) (fun y hy R => ⟨_, rfl, by simp [c1, b.fall, fallB], by simp⟩)]
      simp [-List.map_map, -List.filter_filter]
      rw [lc_p (cs.filter fallB) pCol (fun c => decide (c.goal ∈ found)) (fun c => .str c.home) (by simp [-List.map_map, -List.filter_filter]; first | rfl | exact ⟨rfl, rfl⟩) rfl (by have := List.length_filter_le fallB cs; rw [lim_v]; omega) (fun y hy R => ⟨_, rfl, by simp [c2], by simp [c3]⟩)]
      simp [-List.map_map, -List.filter_filter]
      rw [show (((cs.filter fallB).filter fun c => decide (c.goal ∈ found)).map fun c => P.str c.home) = (((cs.filter fallB).filter fun c => decide (c.goal ∈ found)).map (·.home)).map P.str by simp]
      rw [lc_p ks (fun k => .str k.1) (fun k => decide (k.1 ∈ ((cs.filter fallB).filter fun c => decide (c.goal ∈ found)).map (·.home)) && !decide (k.1 ∈ found)) (fun k => .str k.1) (by simp [-List.map_map, -List.filter_filter, a1]; exact ⟨rfl, rfl⟩) (by simp [kO, kP]) (by rw [lim_v]; omega) (fun y hy R => ⟨_, rfl, by
        by_cases hy1 : y.1 ∈ ((cs.filter fallB).filter fun c => decide (c.goal ∈ found)).map (·.home)
        · simp only [vif_cons, ev_and, ev_cmp]
          simp [-List.mem_map, -List.map_map, -List.filter_filter, hy1]
        · simp only [vif_cons, ev_and, ev_cmp]
          simp [-List.mem_map, -List.map_map, -List.filter_filter, hy1], by simp⟩)]
      have hnx : (ks.filter fun k => decide (k.1 ∈ ((cs.filter fallB).filter fun c => decide (c.goal ∈ found)).map (·.home)) && !decide (k.1 ∈ found)).map (fun k => P.str k.1) = (nextL ks cs found).map P.str := by
        unfold nextL
        rw [List.filter_map, List.map_map]
        rfl
      rw [hnx]
      have f' := next_found h f
      have h1 := hle f
      have h2 := hle f'
      rw [List.length_append] at h2
      simp [-List.map_map, -List.filter_filter, lim_v, show found.length + (nextL ks cs found).length ≤ 1000000 by omega]
      refine ⟨_, ?_, found ++ nextL ks cs found, nextL ks cs found, ⟨by simp, ?_⟩, f', ?_, rfl⟩
      · by_cases hz : nextL ks cs found = []
        · simp [hz, hmore]
        · have := List.length_pos_iff.mpr hz
          simp [hz, hmore]
          omega
      · exact rfl
      · intro hz
        rw [hz, List.append_nil]
        exact hz
  · have := hle f0
    split <;> omega
  · intro hz
    rw [hz]
    simp [nextL]
end
end LS

set_option Elab.async false
set_option linter.all false
set_option maxRecDepth 100000
set_option maxHeartbeats 4000000
/-! LX9: things that repr shows; _law_same. -/
namespace LS
open PySem L2
def RO (p : P) (n w : Nat) : Prop := ∃ d, p.py = some d ∧ d.canLay0 = true ∧ d.depth ≤ n ∧ d.showable = true ∧ d.leavesShort 13 = true ∧ d.weight ≤ w
theorem RO.mono {p : P} {n w n' w' : Nat} (h : RO p n w) (hn : n ≤ n') (hw : w ≤ w') : RO p n' w' := by
  obtain ⟨d, h1, h2, h3, h4, h5, h6⟩ := h
  exact ⟨d, h1, h2, Nat.le_trans h3 hn, h4, h5, Nat.le_trans h6 hw⟩
theorem short_str {s : Str} (h : PyData.strOk s = true) : PyData.leavesShort 13 (.str s) = true := by
  exact PyData.leavesShort_of_canLay0 13 (.str s) (by simpa [PyData.canLay0] using h) rfl
theorem ro_str {s : Str} (h : PyData.strOk s = true) : RO (.str s) 0 s.length :=
  ⟨.str s, rfl, by simpa [PyData.canLay0] using h, by simp [PyData.depth], by simp [PyData.showable], short_str h, by simp [PyData.weight, Str.length]⟩
theorem ro_bl {b : Bool} : RO (.bl b) 0 0 := ⟨.bool b, rfl, by simp [PyData.canLay0], by simp [PyData.depth], by simp [PyData.showable], by simp [PyData.leavesShort], by simp [PyData.weight]⟩
theorem ro_non : RO .non 0 0 := ⟨.none, rfl, by simp [PyData.canLay0], by simp [PyData.depth], by simp [PyData.showable], by simp [PyData.leavesShort], by simp [PyData.weight]⟩
theorem log_small {i : Int} (h : i.natAbs < 10 ^ 12) : i.natAbs.log2 < 40 := by
  by_cases h0 : i.natAbs = 0
  · rw [h0]; decide
  · exact (Nat.log2_lt h0).mpr (Nat.lt_trans h (by decide))
theorem ro_int {i : Int} (h : i.natAbs < 10 ^ 12) : RO (.int i) 0 41 := by
  have hl := log_small h
  refine ⟨.int i, rfl, by simp [PyData.canLay0], by simp [PyData.depth], by simp only [PyData.showable, decide_eq_true_eq]; omega, ?_, ?_⟩
  · simp only [PyData.leavesShort, decide_eq_true_eq]
    exact PyData.shown_int_le h
  · simp only [PyData.weight]
    split <;> omega
theorem ro_all {n w : Nat} : ∀ {ps : List P}, (∀ p ∈ ps, RO p n w) → ∃ ds, pyAll ps = some ds ∧ PyData.canLayAll0 ds = true ∧ PyData.depthAll ds ≤ n ∧ PyData.showableAll ds = true ∧ PyData.leavesShortAll 13 ds = true ∧ PyData.weightAll ds ≤ ps.length * (w + 1)
  | [], _ => ⟨[], rfl, rfl, by simp [PyData.depthAll], rfl, rfl, by simp [PyData.weightAll]⟩
  | p :: ps, h => by
    obtain ⟨d, h1, h2, h3, h4, h5, h6⟩ := h p (by simp)
    obtain ⟨ds, g1, g2, g3, g4, g5, g6⟩ := ro_all (ps := ps) fun q hq => h q (List.mem_cons_of_mem _ hq)
    refine ⟨d :: ds, by simp [pyAll, h1, g1], by simp [PyData.canLayAll0, h2, g2], by simp [PyData.depthAll]; omega, by simp [PyData.showableAll, h4, g4], by simp [PyData.leavesShortAll, h5, g5], ?_⟩
    simp only [PyData.weightAll, List.length_cons, Nat.succ_mul]
    omega
theorem ro_lst {n w : Nat} {ps : List P} (h : ∀ p ∈ ps, RO p n w) : RO (.lst ps) (n + 1) (ps.length * (w + 1)) := by
  obtain ⟨ds, g1, g2, g3, g4, g5, g6⟩ := ro_all h
  exact ⟨.list ds, by simp [P.py, g1], by simpa [PyData.canLay0] using g2, by simp [PyData.depth]; omega, by simpa [PyData.showable] using g4, by simpa [PyData.leavesShort] using g5, by simpa [PyData.weight] using g6⟩
theorem ro_tup {n w : Nat} {ps : List P} (h : ∀ p ∈ ps, RO p n w) : RO (.tup ps) (n + 1) (ps.length * (w + 1)) := by
  obtain ⟨ds, g1, g2, g3, g4, g5, g6⟩ := ro_all h
  exact ⟨.tuple ds, by simp [P.py, g1], by simpa [PyData.canLay0] using g2, by simp [PyData.depth]; omega, by simpa [PyData.showable] using g4, by simpa [PyData.leavesShort] using g5, by simpa [PyData.weight] using g6⟩
theorem repr_ok {p : P} {n w : Nat} (h : RO p n w) (hn : n ≤ 64) (hw : w ≤ 60000) : ∃ r, reprP p = some r := by
  obtain ⟨d, h1, h2, h3, h4, h5, h6⟩ := h
  have hl : d.shown.length ≤ lim := by
    have := PyData.shown_le 13 (by decide) d h5
    rw [lim_v]
    omega
  have hd : d.depth ≤ 64 := Nat.le_trans h3 hn
  refine ⟨d.shown, ?_⟩
  unfold reprP
  simp [h1, SeqAt.shaped, h2, hd, h4, hl]
section
variable {T : Str → Option Fn} {g : Gm} (b : LwA T g)
include b
theorem same_ok {d : Nat} {S : Cells} {p : P} {n w : Nat} (h : RO p n w) (hn : n ≤ 64) (hw : w ≤ 60000) : callF T g (d + 1) "_law_same" [.v p, .v p] S = .ok (.v (.bl true), S) := by
  obtain ⟨r, hr⟩ := repr_ok h hn hw
  refine WX_fun (call_fn b.same rfl ?_)
  simp [f__law_same, startE, bfOp, hr]
end
theorem ro_strs {xs : List Str} (h : ∀ x ∈ xs, PyData.strOk x = true ∧ x.length ≤ 100) : RO (.lst (xs.map .str)) 1 (xs.length * 101) := by
  have := ro_lst (n := 0) (w := 100) (ps := xs.map .str) fun p hp => by
    obtain ⟨x, hx, rfl⟩ := List.mem_map.mp hp
    exact (ro_str (h x hx).1).mono (Nat.le_refl _) (h x hx).2
  simpa using this
end LS

set_option Elab.async false
set_option linter.all false
set_option maxRecDepth 100000
set_option maxHeartbeats 4000000
/-! LX10: drawn shapes and books as values. -/
namespace LS
open PySem L2
def frzK (o : Option Cell) (n : Nat) (S : Cells) : R (P × Cells) := match o with
  | some c => match c.view with
    | some p => .ok (p, S.set n .dead)
    | none => .no
  | none => .no
@[simp] theorem frz_c {n : Nat} {ws : List W} {S : Cells} : freezeL (.c n :: ws) S = (frzK S[n]? n S).bind fun q => (freezeL ws q.2).bind fun q2 => .ok (q.1 :: q2.1, q2.2) := id rfl
@[simp] theorem frzK_l {n : Nat} {ps : List P} {S : Cells} : frzK (some (.lst (ps.map .v))) n S = .ok (.lst ps, S.set n .dead) := by
  simp [frzK, Cell.view]
@[simp] theorem kvK_c {x : Str} {n : Nat} {kvs : List (Key × W)} {S : Cells} : kvK (.v (.str x)) (.c n) (kvs, S) = (frzK S[n]? n S).bind fun z => .ok ((.inr x, .v z.1) :: kvs, z.2) := id rfl
@[simp] theorem slc_l {xs : List P} {lo hi : Option Int} {S : Cells} : slcOp (.v (.lst xs)) lo hi S = .ok (.v (.lst (cutL xs lo hi)), S) := slc_lst
@[simp] theorem dic_bkS1 {s : Sm} {rest : Cells} {c : Cell} {ks : List (Str × Bool)} {cs : List Col} {ch : List Str} : dicK false (rest.length + 3) ([(.inr "kinds", .v (.lst (ks.map pK))), (.inr "columns", .v (.lst (cs.map pC))), (.inr "checks", .v (.lst (ch.map .str)))], s.cells (rest ++ [c, .dct []])) = .ok (.v (pB ks cs ch), s.cells (rest ++ [c])) := by
  have := dic_bk (S := s.cells (rest ++ [c])) (ks := ks) (cs := cs) (ch := ch)
  simpa using this
structure LwB (T : Str → Option Fn) (g : Gm) : Prop extends LwA T g where
  fresh : T "_law_fresh" = some (.fn 8 2 [] f__law_fresh false)
  gFresh : g.fn "_law_fresh" = true
  names : T "_law_names" = some (.fn 4 2 [] f__law_names false)
  gNames : g.fn "_law_names" = true
  pick : T "_law_pick" = some (.fn 2 2 [] f__law_pick false)
  gPick : g.fn "_law_pick" = true
  shape : T "_law_shape" = some (.fn 9 3 [] f__law_shape false)
  gShape : g.fn "_law_shape" = true
  rules : T "_law_rules" = some (.fn 3 3 [] f__law_rules false)
  gRules : g.fn "_law_rules" = true
section
variable {T : Str → Option Fn} {g : Gm} (b : LwB T g)
include b
theorem WX_pick {d : Nat} {s : Sm} {rest : Cells} {B : Int} {ps : List P} {Q : W × Cells → Prop} {E : XQ} (hs : s.ok B) (hB : B + 10 < 1000000) (hp : 0 < ps.length) (hp2 : ps.length < 1000)
    (k : ∀ (s' : Sm) (p : P), s'.ok (B + 1) → p ∈ ps → Q (.v p, s'.cells rest)) : WX (callF T g (d + 2) "_law_pick" [.c 1, .v (.lst ps)] (s.cells rest)) Q E := by
  obtain ⟨s', p, h1, h2, h3⟩ := pick_ok b.draw b.gDraw b.pick d (rest := rest) hs hB hp hp2
  rw [h1]
  exact k s' p h2 h3
theorem shape_v {d : Nat} {s : Sm} {rest : Cells} {B : Int} {M mo : Nat} {Q : W × Cells → Prop} {E : XQ} (hs : s.ok B) (hB : B + 2000 < 1000000) (hM : 0 < M) (hM3 : M ≤ 3) (hmo : 0 < mo) (hmo4 : mo ≤ 4)
    (k : ∀ (s' : Sm) (ks : List (Str × Bool)) (cs : List Col), s'.ok (B + 500) → Shape ks cs → ks.length = M → cs.length ≤ mo → 0 < cs.length → Q (.v (pB ks cs []), s'.cells rest)) :
    WX (callF T g (d + 4) "_law_shape" [.c 1, .v (.int M), .v (.int mo)] (s.cells rest)) Q E := by
  refine call_fn b.shape rfl ?_
  obtain ⟨s1, nms, k1, o1, l1, n1, g1⟩ := names_ok b.draw b.gDraw b.fresh b.gFresh b.names d (s := s) (rest := rest) (B := B) (M := M + mo) hs (by omega) (by omega)
  have k1' : callF T g (d + 3) "_law_names" [.c 1, .v (.int ((M : Int) + mo))] (s.cells rest) = .ok (.v (.lst (nms.map P.str)), s1.cells rest) := k1
  simp [-List.map_map, f__law_shape, startE, b.gNames, k1', lim_v, b.gDraw, b.gPick]
  rw [WS_lift, WX_bind]
  refine WX_draw b.draw (B := B + 77) (o1.mono (by omega)) (by omega) (by omega) (by omega) fun s2 r hs2 h0 h1 => ?_
  have er : ((M : Int) + 1 + r) = ((M + (1 + r.toNat) : Nat) : Int) := by omega
  have hcut2 : cutL (nms.map P.str) (some (M : Int)) (some ((M : Int) + 1 + r)) = ((nms.drop M).take (1 + r.toNat)).map P.str := by
    rw [er, cut_mid _ _ _ (by omega) (by rw [List.length_map]; omega), ← List.map_drop, ← List.map_take, show M + (1 + r.toNat) - M = 1 + r.toNat by omega]
  simp [-List.map_map, -List.map_take, -List.map_drop, hcut2]
  rw [WS_seq]
  have hcut : cutL (nms.map P.str) none (some (M : Int)) = (nms.take M).map P.str := by
    rw [cut_take _ _ (by rw [List.length_map]; omega), List.map_take]
  have htk : (nms.take M).length = M := by simp; omega
  refine WS_forM ((nms.drop M).take (1 + r.toNat)) .str (fun done env S' => ∃ (s : Sm) (cs : List Col) (o3 o7 o8 : Option W), env = [some (.c 1), some (.v (.int M)), some (.v (.int mo)), o3, none, some (.v (.lst (nms.map P.str))), some (.c (rest.length + 2)), o7, o8] ∧ S' = s.cells (rest ++ [.lst ((cs.map pC).map .v)]) ∧ s.ok (B + 78 + 3 * done.length) ∧ cs.map (·.name) = done ∧
      ∀ c ∈ cs, c.home ∈ nms.take M ∧ c.goal ∈ nms.take M ∧ (c.rule = "fall" ∨ c.rule = "clear")) rfl ⟨s2, [], none, none, none, rfl, rfl, by simpa using hs2.mono (by omega), rfl, fun _ h => nomatch h⟩ ?_ ?_
  · rintro done nm todo env S' hy ⟨s, cs, o3, o7, o8, rfl, rfl, hs, hn, hc⟩
    refine ⟨_, rfl, ?_⟩
    have hlen : done.length ≤ 4 := by
      have := congrArg List.length hy
      simp at this
      omega
    have hcl : cs.length = done.length := by rw [← hn]; simp
    simp [-List.map_map, -List.map_take, hcut, b.gPick]
    rw [WS_lift, WX_bind]
    refine WX_pick b (ps := (nms.take M).map P.str) hs (by omega) (by rw [List.length_map, htk]; exact hM) (by rw [List.length_map, htk]; omega) fun s3 p3 hs3 m3 => ?_
    obtain ⟨x1, hx1, rfl⟩ := List.mem_map.mp m3
    rw [WX_bind]
    refine WX_pick b (ps := (nms.take M).map P.str) hs3 (by omega) (by rw [List.length_map, htk]; exact hM) (by rw [List.length_map, htk]; omega) fun s4 p4 hs4 m4 => ?_
    obtain ⟨x2, hx2, rfl⟩ := List.mem_map.mp m4
    simp [-List.map_map, lim_v, b.gDraw]
    rw [WS_lift, WX_bind]
    refine WX_draw b.draw hs4 (by omega) (by decide) (by decide) fun s5 r5 hs5 h05 h15 => ?_
    obtain ⟨ru, hru, hix⟩ := rule_pick h05 h15
    simp [rules3] at hix
    simp [-List.map_map, hix, lim_v, show cs.length < 1000000 by omega]
    refine ⟨s5, cs ++ [⟨nm, x1, x2, ru⟩], by simp [pC], hs5.mono (by omega), by simp [hn], fun c hcm => ?_⟩
    rcases List.mem_append.mp hcm with h | h
    · exact hc c h
    · have : c = ⟨nm, x1, x2, ru⟩ := by simpa using h
      subst this
      exact ⟨hx1, hx2, hru⟩
  · rintro env S' ⟨s3, cs, o3, o7, o8, rfl, rfl, hs3, hn, hc⟩
    have hcl : cs.length = 1 + r.toNat := by
      have := congrArg List.length hn
      simp at this
      omega
    simp [-List.map_map]
    rw [WS_lift]
    refine WX_lc famS (Inv := fun xs acc s => ∃ done todo got, nms.take M = done ++ todo ∧ xs = (todo.map P.str).map W.v ∧ acc = got.map pK ∧ got.map (·.1) = done ∧ s.ok (B + 100 + done.length)) (xs := ((nms.take M).map P.str).map W.v) (s := s3) (rest := rest ++ [.lst ((cs.map pC).map .v)]) ?_ (by simp; rw [lim_v]; omega) ⟨[], _, [], rfl, rfl, rfl, rfl, hs3.mono (by simp; omega)⟩ ?_ ?_
    · simp [-List.map_map, hcut, famS]
    · rintro x xs acc s ⟨done, todo, got, e1, e2, rfl, e4, e5⟩
      cases todo with
      | nil => cases e2
      | cons y todo =>
        cases e2
        refine ⟨_, rfl, ?_⟩
        have hlen : done.length ≤ 3 := by
          have := congrArg List.length e1
          simp at this
          omega
        simp [-List.map_map, famS, b.gDraw]
        refine ⟨s, rfl, ?_⟩
        rw [WX_bind]
        refine WX_draw b.draw e5 (by omega) (by decide) (by decide) fun s6 r6 hs6 h06 h16 => ?_
        simp [lim_v]
        refine ⟨_, s6, ⟨rfl, rfl⟩, done ++ [y], todo, by simp [e1], rfl, got ++ [(y, decide (0 < r6))], by simp [pK], by simp [e4], ?_⟩
        simp
        exact hs6.mono (by omega)
    · rintro ps s7 ⟨done, todo, ks, e1, e2, rfl, e4, e5⟩
      cases todo with
      | cons _ _ => cases e2
      | nil =>
        rw [List.append_nil] at e1
        subst e1
        have hkl : ks.length = M := by
          have := congrArg List.length e4
          rw [List.length_map, htk] at this
          exact this
        have hp := dic_bkS1 (s := s7) (rest := rest) (c := .dead) (ks := ks) (cs := cs) (ch := [])
        simp at hp
        simp [-List.map_map, famS, lim_v, hp]
        refine k s7 ks cs (e5.mono (by rw [htk]; omega)) ?_ hkl (by omega) (by omega)
        have hsub : (ks.map (·.1) ++ cs.map (·.name)).Sublist nms := by
          rw [e4, hn]
          have : (nms.take M ++ (nms.drop M).take (1 + r.toNat)).Sublist (nms.take M ++ nms.drop M) := (List.Sublist.refl _).append (List.take_sublist _ _)
          rwa [List.take_append_drop] at this
        exact ⟨n1.sublist hsub, fun x hx => g1 x (hsub.subset hx), fun c hcm => by rw [e4]; exact (hc c hcm).1, fun c hcm => by rw [e4]; exact (hc c hcm).2.1, fun c hcm => (hc c hcm).2.2⟩
end
end LS

set_option Elab.async false
set_option linter.all false
set_option maxRecDepth 100000
set_option maxHeartbeats 4000000
/-! LX11: tight kinds and columns, by the program and by the laws. -/
namespace LS
open PySem L2
@[simp] theorem ix_k {ks : List (Str × Bool)} {cs : List Col} {ch : List Str} : ixP (pB ks cs ch) (.str "kinds") = some (.lst (ks.map pK)) := by simp [pB, bkD, ixP, keyOf]
@[simp] theorem ix_c {ks : List (Str × Bool)} {cs : List Col} {ch : List Str} : ixP (pB ks cs ch) (.str "columns") = some (.lst (cs.map pC)) := by simp [pB, bkD, ixP, keyOf]
@[simp] theorem ix_h {ks : List (Str × Bool)} {cs : List Col} {ch : List Str} : ixP (pB ks cs ch) (.str "checks") = some (.lst (ch.map .str)) := by simp [pB, bkD, ixP, keyOf]
@[simp] theorem methK_bk {C : Cn} {m : Str} {l : E} {env : Env} {S : Cells} {ks : List (Str × Bool)} {cs : List Col} {ch : List Str} (h : m ≠ "open_kinds") (h2 : m ≠ "column_rows") (h3 : m ≠ "column_table") (h4 : m ≠ "all_checks") (h5 : m ≠ "own_checks") (hg : C.g.met "Book" m = true) :
    methK C m l env (.v (pBook ks cs ch), S) = (evL C l env S).bind fun q2 => C.call (Str.ofString "Book" ++ Str.ofString "." ++ m) (.v (pBook ks cs ch) :: q2.1) q2.2 := by
  unfold pBook
  rw [methK_obj (by simp [h, h2, h3, h4, h5]) hg]
@[simp] theorem hasK_bk {C : Cn} {neg : Bool} {x : W} {S : Cells} {ks : List (Str × Bool)} {cs : List Col} {ch : List Str} (hg : C.g.met "Book" "__contains__" = true) :
    hasK C neg x (.v (pBook ks cs ch), S) = (C.call "Book.__contains__" [.v (pBook ks cs ch), x] S).bind fun r => hasR neg r := by
  unfold pBook
  rw [hasK_obj (by simp) hg]
  simp
@[simp] theorem att_bo {fl : Str → Str → Bool} {S : Cells} {ks : List (Str × Bool)} {cs : List Col} {ch : List Str} (h : fl "Book" "own_checks" = true) : attOp fl (.v (pBook ks cs ch)) "own_checks" S = .ok (.v (.lst (((menuL (cs.map (·.name)) (ks.map (·.1))).filter fun c => decide (c ∈ ch)).map .str)), S) := by simp [pBook, h]
@[simp] theorem att_bt {fl : Str → Str → Bool} {S : Cells} {ks : List (Str × Bool)} {cs : List Col} {ch : List Str} (h : fl "Book" "column_table" = true) : attOp fl (.v (pBook ks cs ch)) "column_table" S = .ok (.v (.dct (cs.map kC)), S) := by simp [pBook, h]
@[simp] theorem att_ck {fl : Str → Str → Bool} {S : Cells} {ks : List (Str × Bool)} {cs : List Col} {ch : List Str} (h : fl "Book" "open_kinds" = true) : attOp fl (.v (pBook ks cs ch)) "open_kinds" S = .ok (.v (.dct (ks.map kO)), S) := by simp [pBook, h]
@[simp] theorem att_c1 {fl : Str → Str → Bool} {S : Cells} {c : Col} (h : fl "Column" "word" = true) : attOp fl (.v (pCol c)) "word" S = .ok (.v (.str c.name), S) := by simp [pCol, h]
@[simp] theorem att_c2 {fl : Str → Str → Bool} {S : Cells} {c : Col} (h : fl "Column" "home" = true) : attOp fl (.v (pCol c)) "home" S = .ok (.v (.str c.home), S) := by simp [pCol, h]
@[simp] theorem att_c3 {fl : Str → Str → Bool} {S : Cells} {c : Col} (h : fl "Column" "goal" = true) : attOp fl (.v (pCol c)) "goal" S = .ok (.v (.str c.goal), S) := by simp [pCol, h]
@[simp] theorem att_c4 {fl : Str → Str → Bool} {S : Cells} {c : Col} (h : fl "Column" "rule" = true) : attOp fl (.v (pCol c)) "rule" S = .ok (.v (.str c.rule), S) := by simp [pCol, h]
@[simp] theorem ixC1 {c : Col} : ixP (pC c) (.int 0) = some (.str c.name) := by simp [pC, ixP, atI, ixN]
@[simp] theorem ixC2 {c : Col} : ixP (pC c) (.int 1) = some (.str c.home) := by simp [pC, ixP, atI, ixN]
@[simp] theorem ixC3 {c : Col} : ixP (pC c) (.int 2) = some (.str c.goal) := by simp [pC, ixP, atI, ixN]
@[simp] theorem ixC4 {c : Col} : ixP (pC c) (.int 3) = some (.str c.rule) := by simp [pC, ixP, atI, ixN]
@[simp] theorem ixK1 {c : Str × Bool} : ixP (pK c) (.int 0) = some (.str c.1) := by simp [pK, ixP, atI, ixN]
@[simp] theorem ixK2 {c : Str × Bool} : ixP (pK c) (.int 1) = some (.bl c.2) := by simp [pK, ixP, atI, ixN]
def bareS (k : Str) : Str := Str.ofString "bare " ++ k
def tightL (ks : List (Str × Bool)) (cs : List Col) (ch : List Str) : List Str := (markL ks cs).filter fun k => decide (bareS k ∈ ch)
def tightC (ks : List (Str × Bool)) (cs : List Col) (ch : List Str) : List Col := (cs.filter fallB).filter fun c => decide (c.home ∈ tightL ks cs ch) && decide (c.goal ∈ tightL ks cs ch)
theorem bare_menu {cs ks : List Str} {k : Str} (h : k ∈ ks) : bareS k ∈ menuL cs ks := by
  unfold menuL
  refine List.mem_append_left _ (List.mem_append_right _ ?_)
  unfold m3
  refine List.mem_flatMap.mpr ⟨k, h, List.mem_map.mpr ⟨Str.ofString "bare", by simp [sorts3], ?_⟩⟩
  simp [bareS]
theorem mark_len (ks : List (Str × Bool)) (cs : List Col) : (markL ks cs).length ≤ ks.length := by simpa [markL] using List.length_filter_le (comesB ks cs ks.length) (ks.map (·.1))
theorem mark_mem {ks : List (Str × Bool)} {cs : List Col} {k : Str} (h : k ∈ markL ks cs) : k ∈ ks.map (·.1) := (List.mem_filter.mp h).1
theorem tight_len (ks : List (Str × Bool)) (cs : List Col) (ch : List Str) : (tightL ks cs ch).length ≤ ks.length := Nat.le_trans (List.length_filter_le _ _) (mark_len ks cs)
theorem tight_mem {ks : List (Str × Bool)} {cs : List Col} {ch : List Str} {k : Str} (h : k ∈ tightL ks cs ch) : k ∈ ks.map (·.1) := mark_mem (List.mem_filter.mp h).1
structure BkB (T : Str → Option Fn) (g : Gm) : Prop extends BkA T g where
  markable : T "Book.markable" = some (.fn 7 1 [] (mkBody false) false)
  gMarkable : g.met "Book" "markable" = true
  contains : T "Book.__contains__" = some (.fn 2 2 [] f_Book_contains false)
  gContains : g.met "Book" "__contains__" = true
structure BkR (T : Str → Option Fn) (g : Gm) : Prop extends BkB T g where
  tightKinds : T "tight_kinds" = some (.fn 2 1 [] f_tight_kinds false)
  gTightKinds : g.fn "tight_kinds" = true
  tightColumns : T "tight_columns" = some (.fn 4 1 [] f_tight_columns false)
  gTightColumns : g.fn "tight_columns" = true
section
variable {T : Str → Option Fn} {g : Gm} (b : BkB T g)
include b
theorem contains_ok {d : Nat} {S : Cells} {ks : List (Str × Bool)} {cs : List Col} {ch : List Str} {x : Str} : callF T g (d + 2) "Book.__contains__" [.v (pBook ks cs ch), .v (.str x)] S = .ok (.v (.bl (decide (x ∈ (menuL (cs.map (·.name)) (ks.map (·.1))).filter fun c => decide (c ∈ ch)))), S) := by
  refine WX_fun (call_fn b.contains rfl ?_)
  have := fun S => stands_in_ok b.toBkA (d := d) (S := S) (x := x) (p := .lst (((menuL (cs.map (·.name)) (ks.map (·.1))).filter fun c => decide (c ∈ ch)).map .str)) in_strs
  simp [-List.map_map, -List.mem_filter, f_Book_contains, startE, b.gStandsIn, b.fB5, this]
end
section
variable {T : Str → Option Fn} {g : Gm} (b : BkR T g)
include b
theorem tight_kinds_ok {d : Nat} {S : Cells} {ks : List (Str × Bool)} {cs : List Col} {ch : List Str} (h : Shape ks cs) (hl : cs.length ≤ 10) (hl2 : ks.length ≤ 10) (hfu : 100 < g.fu) : callF T g (d + 3) "tight_kinds" [.v (pBook ks cs ch)] S = .ok (.v (.lst ((tightL ks cs ch).map .str)), S) := by
  refine WX_fun (call_fn b.tightKinds rfl ?_)
  have hm := fun S => markable_ok b.toBkA (d := d + 1) (S := S) (ch := ch) b.markable h hl hl2 hfu
  simp [-List.map_map] at hm
  have hml := mark_len ks cs
  simp [-List.map_map, f_tight_kinds, startE]
  rw [lc_p (S := S) (ps := (markL ks cs).map .str) (markL ks cs) .str (fun k => decide (bareS k ∈ ch)) .str (by simp [-List.map_map, b.gMarkable, hm]) rfl (by rw [lim_v]; omega) (fun y hy R => ⟨_, rfl, by
    have hg := good_len (h.good y (List.mem_append_left _ (mark_mem hy)))
    have hb := bare_menu (cs := cs.map (·.name)) (mark_mem hy)
    simp [b.gContains, lim_v, contains_ok b.toBkB, show 5 + y.length ≤ 1000000 by omega]
    simp only [bareS] at hb ⊢
    simp [hb]
    congr, by simp⟩)]
  simp [tightL]
theorem tight_columns_ok {d : Nat} {S : Cells} {ks : List (Str × Bool)} {cs : List Col} {ch : List Str} (h : Shape ks cs) (hl : cs.length ≤ 10) (hl2 : ks.length ≤ 10) (hfu : 100 < g.fu) : callF T g (d + 4) "tight_columns" [.v (pBook ks cs ch)] S = .ok (.v (.lst ((tightC ks cs ch).map pCol)), S) := by
  refine WX_fun (call_fn b.tightColumns rfl ?_)
  have ht := fun S => tight_kinds_ok b (d := d) (S := S) (ch := ch) h hl hl2 hfu
  simp [-List.map_map, f_tight_columns, startE, b.gTightKinds, ht]
  rw [lc_p (S := S) (ps := cs.map pCol) cs pCol fallB pCol (by simp [-List.map_map, b.fB3]; simp [kC]) rfl (by rw [lim_v]; omega) (fun y hy R => ⟨_, rfl, by simp [b.fC4, b.fall, fallB], by simp⟩)]
  simp [-List.map_map, -List.filter_filter]
  have hfl := List.length_filter_le fallB cs
  rw [lc_p (S := S) (ps := (cs.filter fallB).map pCol) (cs.filter fallB) pCol (fun c => decide (c.home ∈ tightL ks cs ch) && decide (c.goal ∈ tightL ks cs ch)) pCol (by simp [-List.map_map, -List.filter_filter]) rfl (by rw [lim_v]; omega) (fun y hy R => ⟨_, rfl, by
    by_cases hh : y.home ∈ tightL ks cs ch <;> simp [b.fC2, b.fC3, hh], by simp⟩)]
  simp [tightC]
end
end LS

set_option Elab.async false
set_option linter.all false
set_option maxRecDepth 100000
set_option maxHeartbeats 4000000
/-! LX12: the laws' own books: rules, markable, tight kinds, ties. -/
namespace LS
open PySem L2
theorem comes_op {ks : List (Str × Bool)} {cs : List Col} {k : Str} (h : (k, true) ∈ ks) : ∀ n, comesB ks cs n k = true
  | 0 => decide_eq_true h
  | n + 1 => by simp [comesB, h]
theorem comes_next {ks : List (Str × Bool)} {cs : List Col} {n : Nat} {k : Str} : comesB ks cs (n + 1) k = (decide ((k, true) ∈ ks) || cs.any fun c => decide (c.home = k) && (decide (c.rule = Str.ofString "fall") && comesB ks cs n c.goal)) := rfl
def tieL (ks : List (Str × Bool)) (cs : List Col) (ch : List Str) : List (Str × Str) := (tightC ks cs ch).map fun c => (c.home, c.goal)
def pT (e : Str × Str) : P := .tup [.str e.1, .str e.2]
theorem slc_pC {c : Col} {S : Cells} : slcOp (.v (pC c)) (some 1) (some 3) S = .ok (.v (pT (c.home, c.goal)), S) := rfl
theorem dic_bk0 {S : Cells} {ks : List (Str × Bool)} {cs : List Col} {ch : List Str} {x : Str} : dicK false S.length ([(.inr "kinds", .v (.lst (ks.map pK))), (.inr "columns", .v (.lst (cs.map pC))), (.inr "checks", .v (.lst (ch.map .str ++ [.str x])))], S ++ [.dct []]) = .ok (.v (pB ks cs (ch ++ [x])), S) := by
  have := dic_bk (S := S) (ks := ks) (cs := cs) (ch := ch ++ [x])
  simpa using this
structure LwC (T : Str → Option Fn) (g : Gm) : Prop extends LwB T g where
  made : T "_law_made" = some (.fn 1 1 [] f__law_made false)
  gMade : g.fn "_law_made" = true
structure LwR (T : Str → Option Fn) (g : Gm) : Prop extends LwC T g where
  markable : T "_law_markable" = some (.fn 6 1 [] f__law_markable false)
  gMarkable : g.fn "_law_markable" = true
  checks : T "_law_checks" = some (.fn 3 3 [] f__law_checks false)
  gChecks : g.fn "_law_checks" = true
  tight : T "_law_tight" = some (.fn 2 1 [] f__law_tight false)
  gTight : g.fn "_law_tight" = true
  ties : T "_law_ties" = some (.fn 3 1 [] f__law_ties false)
  gTies : g.fn "_law_ties" = true
section
variable {T : Str → Option Fn} {g : Gm} (b : LwB T g)
include b
theorem rules_ok {d : Nat} {s : Sm} {rest : Cells} {B : Int} {many mo : Nat} {Q : W × Cells → Prop} {E : XQ} (hs : s.ok B) (hB : B + 3000 < 1000000) (hm : 0 < many) (hm3 : many ≤ 3) (hmo : 0 < mo) (hmo4 : mo ≤ 4)
    (k : ∀ (s' : Sm) (ks : List (Str × Bool)) (cs : List Col) (ch : List Str), s'.ok (B + 700) → Shape ks cs → 0 < ks.length → ks.length ≤ many → cs.length ≤ mo → 0 < cs.length → ch.Sublist (menuL (cs.map (·.name)) (ks.map (·.1))) → Q (.v (pB ks cs ch), s'.cells rest)) :
    WX (callF T g (d + 5) "_law_rules" [.c 1, .v (.int many), .v (.int mo)] (s.cells rest)) Q E := by
  refine call_fn b.rules rfl ?_
  simp [f__law_rules, startE, b.gDraw, b.gShape, b.gChecked]
  rw [WS_lift, WX_bind]
  refine WX_draw b.draw hs (by omega) (by omega) (by omega) fun s1 r hs1 h0 h1 => ?_
  rw [WX_bind]
  simp only [add_int, WX_ok]
  rw [WX_bind, show (1 + r) = ((1 + r.toNat : Nat) : Int) by omega]
  refine shape_v b (M := 1 + r.toNat) hs1 (by omega) (by omega) (by omega) hmo hmo4 fun s2 ks cs hs2 hsh hk hc hc0 => ?_
  refine checked_ok b.toLwA (d := d + 2) (fun s => bat_v) hsh (by omega) (by omega) hs2 (by omega) fun s3 ch hs3 hch => ?_
  simp
  exact k s3 ks cs ch (hs3.mono (by omega)) hsh (by omega) (by omega) hc hc0 hch
end
section
variable {T : Str → Option Fn} {g : Gm} (b : LwC T g) (bk : BkA T g)
include b bk
theorem made_ok {d : Nat} {S : Cells} {w : W} {ks : List (Str × Bool)} {cs : List Col} {ch : List Str} (hw : BAt w S ks cs ch) (h : Shape ks cs) (hl : cs.length ≤ 10) (hl2 : ks.length ≤ 10) (hfu : 100 < g.fu) (hc : ∀ x ∈ ch, x ∈ menuL (cs.map (·.name)) (ks.map (·.1))) :
    callF T g (d + 6) "_law_made" [w] S = .ok (.v (pBook ks cs ch), S) := by
  refine WX_fun (call_fn b.made rfl ?_)
  simp [-List.map_map, f__law_made, startE, hw.k0, hw.c0, hw.h0, bk.gBook, book_ok bk h hl hl2 hfu hc]
end
section
variable {T : Str → Option Fn} {g : Gm} (b : LwR T g)
include b
theorem checksL_ok {d : Nat} {S : Cells} {w : W} {ks : List (Str × Bool)} {cs : List Col} {ch : List Str} {x y : Str} (hw : BAt w S ks cs ch) (hx : x.length + y.length ≤ 100) :
    callF T g (d + 1) "_law_checks" [w, .v (.str x), .v (.str y)] S = .ok (.v (.bl (decide (x ++ Str.ofString " " ++ y ∈ ch))), S) := by
  refine WX_fun (call_fn b.checks rfl ?_)
  simp [-List.map_map, f__law_checks, startE, hw.h0, lim_v, show x.length + 1 ≤ 1000000 by omega, show x.length + 1 + y.length ≤ 1000000 by omega]
theorem lmarkable_ok {d : Nat} {S : Cells} {w : W} {ks : List (Str × Bool)} {cs : List Col} {ch : List Str} (hw : BAt w S ks cs ch) (h : Shape ks cs) (hl : cs.length ≤ 10) (hl2 : ks.length ≤ 10) :
    callF T g (d + 1) "_law_markable" [w] S = .ok (.v (.lst ((markL ks cs).map .str)), S) := by
  refine WX_fun (call_fn b.markable rfl ?_)
  simp [-List.map_map, f__law_markable, startE]
  rw [lc_p (S := S) (ps := ks.map pK) ks pK (fun k => k.2) (fun k => .str k.1) (by simp [-List.map_map, hw.k0]) rfl (by rw [lim_v]; omega) (fun y hy R => ⟨_, rfl, by simp, by simp⟩)]
  simp [-List.map_map, hw.k0]
  rw [WS_seq]
  refine WS_forM ks pK (fun done env S' => ∃ (found : List Str) (o2 : Option W), env = [some w, some (.v (.lst (found.map P.str))), o2, none, none, none] ∧ S' = S ∧ found.length ≤ 10 + 10 * done.length ∧ ∀ k, k ∈ found ↔ comesB ks cs done.length k = true) rfl ⟨(ks.filter (·.2)).map (·.1), none, by simp, rfl, by
    have := List.length_filter_le (fun k : Str × Bool => k.2) ks
    simp; omega, fun k => ?_⟩ ?_ ?_
  · simp [comesB]
  · rintro done y todo env S' hy ⟨found, o2, rfl, rfl, hf, hfi⟩
    refine ⟨_, rfl, ?_⟩
    have hdl : done.length < ks.length := by rw [hy]; simp
    simp [-List.map_map]
    rw [lc_p (S := S') (ps := cs.map pC) cs pC (fun c => fallB c && decide (c.goal ∈ found)) (fun c => .str c.home) (by simp [-List.map_map, hw.c0]) rfl (by rw [lim_v]; omega) (fun y hy R => ⟨_, rfl, by
      by_cases hh : y.rule = Str.ofString "fall" <;> simp [hh, fallB], by simp⟩)]
    have hfl := List.length_filter_le (fun c => fallB c && decide (c.goal ∈ found)) cs
    simp [-List.map_map, lim_v, show found.length + (cs.filter fun c => fallB c && decide (c.goal ∈ found)).length ≤ 1000000 by omega]
    refine ⟨found ++ (cs.filter fun c => fallB c && decide (c.goal ∈ found)).map (·.home), by simp, by simp; omega, fun k => ?_⟩
    rw [List.mem_append, hfi k, comes_next]
    simp only [List.mem_map, List.mem_filter, Bool.and_eq_true, decide_eq_true_eq, Bool.or_eq_true, List.any_eq_true, fallB]
    constructor
    · rintro (hk | ⟨c, ⟨hc, h1, h2⟩, rfl⟩)
      · have := comes_succ hk
        rw [comes_next] at this
        simpa [fallB] using this
      · exact .inr ⟨c, hc, rfl, h1, (hfi _).mp h2⟩
    · rintro (hk | ⟨c, hc, rfl, h1, h2⟩)
      · exact .inl (comes_op hk _)
      · exact .inr ⟨c, ⟨hc, h1, (hfi _).mpr h2⟩, rfl⟩
  · rintro env S' ⟨found, o2, rfl, rfl, hf, hfi⟩
    simp [-List.map_map]
    rw [lc_p (S := S') (ps := ks.map pK) ks pK (fun k => decide (k.1 ∈ found)) (fun k => .str k.1) (by simp [-List.map_map, hw.k0]) rfl (by rw [lim_v]; omega) (fun y hy R => ⟨_, rfl, by simp, by simp⟩)]
    have : (ks.filter fun k => decide (k.1 ∈ found)).map (fun k => P.str k.1) = (markL ks cs).map P.str := by
      unfold markL
      rw [List.filter_map, List.map_map]
      have : ks.filter (fun k => decide (k.1 ∈ found)) = ks.filter (comesB ks cs ks.length ∘ fun x => x.1) := by
        apply List.filter_congr
        intro k _
        rw [Bool.eq_iff_iff, decide_eq_true_iff, hfi]
        rfl
      rw [this]
      rfl
    rw [this]
    simp
theorem ltight_ok {d : Nat} {S : Cells} {w : W} {ks : List (Str × Bool)} {cs : List Col} {ch : List Str} (hw : BAt w S ks cs ch) (h : Shape ks cs) (hl : cs.length ≤ 10) (hl2 : ks.length ≤ 10) :
    callF T g (d + 2) "_law_tight" [w] S = .ok (.v (.lst ((tightL ks cs ch).map .str)), S) := by
  refine WX_fun (call_fn b.tight rfl ?_)
  have hml := mark_len ks cs
  simp [-List.map_map, f__law_tight, startE]
  rw [lc_p (S := S) (ps := (markL ks cs).map .str) (markL ks cs) .str (fun k => decide (bareS k ∈ ch)) .str (by simp [-List.map_map, b.gMarkable, lmarkable_ok b hw h hl hl2]) rfl (by rw [lim_v]; omega) (fun y hy R => ⟨_, rfl, by
    have hg := good_len (h.good y (List.mem_append_left _ (mark_mem hy)))
    have := checksL_ok b (d := d) (x := Str.ofString "bare") (y := y) (hw.app [R]) (by simp; omega)
    simp at this
    simp [b.gChecks, this, bareS]
    congr, by simp⟩)]
  simp [tightL]
theorem lties_ok {d : Nat} {S : Cells} {w : W} {ks : List (Str × Bool)} {cs : List Col} {ch : List Str} (hw : BAt w S ks cs ch) (h : Shape ks cs) (hl : cs.length ≤ 10) (hl2 : ks.length ≤ 10) :
    callF T g (d + 3) "_law_ties" [w] S = .ok (.v (.lst ((tieL ks cs ch).map pT)), S) := by
  refine WX_fun (call_fn b.ties rfl ?_)
  simp [-List.map_map, f__law_ties, startE, b.gTight, ltight_ok b hw h hl hl2]
  rw [lc_p (S := S) (ps := cs.map pC) cs pC (fun c => fallB c && (decide (c.home ∈ tightL ks cs ch) && decide (c.goal ∈ tightL ks cs ch))) (fun c => pT (c.home, c.goal)) (by simp [-List.map_map, hw.c0]) rfl (by rw [lim_v]; omega) (fun y hy R => ⟨_, rfl, by
    by_cases hh : y.rule = Str.ofString "fall"
    · by_cases h2 : y.home ∈ tightL ks cs ch <;> simp [hh, h2, fallB]
    · simp [hh, fallB], by simp [slc_pC]⟩)]
  have : (cs.filter fun c => fallB c && (decide (c.home ∈ tightL ks cs ch) && decide (c.goal ∈ tightL ks cs ch))).map (fun c => pT (c.home, c.goal)) = (tieL ks cs ch).map pT := by
    unfold tieL tightC
    rw [List.filter_filter, List.map_map]
    congr 1
    apply List.filter_congr
    intro c _
    cases fallB c <;> simp
  rw [this]
  simp
end
end LS

set_option Elab.async false
set_option linter.all false
set_option maxRecDepth 100000
set_option maxHeartbeats 4000000
/-! LX13: ranks, by the program. -/
namespace LS
open PySem L2
/-! the mathematics -/
def updF (g : Str → Nat) (h : Str) (v : Nat) : Str → Nat := fun k => if k = h then max (g k) v else g k
def stepF (cs : List Col) (f g : Str → Nat) : Str → Nat := cs.foldl (fun g c => updF g c.home (f c.goal + 1)) g
theorem step_snoc (cs : List Col) (c : Col) (f g : Str → Nat) : stepF (cs ++ [c]) f g = updF (stepF cs f g) c.home (f c.goal + 1) := by simp [stepF]
theorem step_ge (f : Str → Nat) (k : Str) : ∀ (cs : List Col) (g : Str → Nat), g k ≤ stepF cs f g k
  | [], g => Nat.le_refl _
  | c :: cs, g => by
    have := step_ge f k cs (updF g c.home (f c.goal + 1))
    have h : g k ≤ updF g c.home (f c.goal + 1) k := by unfold updF; split <;> omega
    exact Nat.le_trans h this
theorem step_edge (f : Str → Nat) {c : Col} : ∀ (cs : List Col) (g : Str → Nat), c ∈ cs → f c.goal + 1 ≤ stepF cs f g c.home
  | [], g, h => by cases h
  | a :: cs, g, h => by
    rcases List.mem_cons.mp h with rfl | h
    · have := step_ge f c.home cs (updF g c.home (f c.goal + 1))
      have h2 : f c.goal + 1 ≤ updF g c.home (f c.goal + 1) c.home := by unfold updF; rw [if_pos rfl]; omega
      exact Nat.le_trans h2 this
    · exact step_edge f cs _ h
theorem step_or (f : Str → Nat) (k : Str) : ∀ (cs : List Col) (g : Str → Nat), stepF cs f g k = g k ∨ ∃ c ∈ cs, c.home = k ∧ stepF cs f g k = f c.goal + 1
  | [], g => .inl rfl
  | a :: cs, g => by
    rcases step_or f k cs (updF g a.home (f a.goal + 1)) with h | ⟨c, hc, h1, h2⟩
    · have e : stepF (a :: cs) f g k = updF g a.home (f a.goal + 1) k := h
      rw [e]
      unfold updF
      split
      · rename_i hk
        by_cases hm : g k ≤ f a.goal + 1
        · exact .inr ⟨a, List.mem_cons_self, hk.symm, by omega⟩
        · exact .inl (by omega)
      · exact .inl rfl
    · exact .inr ⟨c, List.mem_cons_of_mem _ hc, h1, h2⟩
/-! a dict of numbers -/
def dN (N : List Str) (f : Str → Nat) : List (Key × W) := N.map fun k => (.inr k, .v (.int (f k)))
def pN (N : List Str) (f : Str → Nat) : List (Key × P) := N.map fun k => (.inr k, .int (f k))
@[simp] theorem all_dN {N : List Str} {f : Str → Nat} : allKP (dN N f) = some (pN N f) := by
  unfold dN pN
  exact allKP_map (f := fun k => ((.inr k : Key), P.int (f k)))
theorem get_dN {f : Str → Nat} {k : Str} : ∀ {N : List Str}, k ∈ N → getK (dN N f) (.inr k) = some (.v (.int (f k)))
  | [], h => by cases h
  | a :: N, h => by
    unfold dN
    rw [List.map_cons, gk_cons]
    by_cases e : a = k
    · subst e; simp
    · rw [if_neg (fun z => e (Sum.inr.inj z))]
      rcases List.mem_cons.mp h with rfl | h
      · exact absurd rfl e
      · exact get_dN h
theorem get_pN {f : Str → Nat} {k : Str} : ∀ {N : List Str}, k ∈ N → getK (pN N f) (.inr k) = some (.int (f k))
  | [], h => by cases h
  | a :: N, h => by
    unfold pN
    rw [List.map_cons, gk_cons]
    by_cases e : a = k
    · subst e; simp
    · rw [if_neg (fun z => e (Sum.inr.inj z))]
      rcases List.mem_cons.mp h with rfl | h
      · exact absurd rfl e
      · exact get_pN h
theorem set_dN {N : List Str} {f : Str → Nat} {h : Str} {v : Nat} (hm : h ∈ N) : setK (dN N f) (.inr h) (.v (.int v)) = dN N fun k => if k = h then v else f k := by
  unfold setK
  rw [if_pos]
  · unfold dN
    rw [List.map_map]
    apply List.map_congr_left
    intro k _
    by_cases e : k = h
    · simp [e]
    · simp [e]
  · rw [List.any_eq_true]
    exact ⟨(.inr h, .v (.int (f h))), List.mem_map.mpr ⟨h, hm, rfl⟩, by simp⟩
theorem low_dN {N : List Str} {f : Str → Nat} {n : Nat} : ((dN N f).all fun q => refBelow n q.2) = true := by
  unfold dN
  rw [List.all_map]
  exact List.all_eq_true.mpr fun _ _ => rfl
theorem eqD_N {N : List Str} {f g : Str → Nat} : eqS (.dct (pN N g)) (.dct (pN N f)) = some (decide (∀ k ∈ N, g k = f k)) := by
  have hf : ∀ f : Str → Nat, ((pN N f).all fun q => flatP q.2) = true := fun f => by
    unfold pN
    rw [List.all_map]
    exact List.all_eq_true.mpr fun _ _ => rfl
  show eqD _ _ = _
  unfold eqD
  rw [if_pos (by rw [hf, hf]; rfl)]
  congr 1
  rw [show (pN N g).length = (pN N f).length by simp [pN], Bool.eq_iff_iff]
  simp only [decide_true, Bool.true_and, decide_eq_true_eq, List.all_eq_true]
  constructor
  · intro h k hk
    have := h (.inr k, .int (g k)) (List.mem_map.mpr ⟨k, hk, rfl⟩)
    simp only [get_pN hk, eqF, beq_iff_eq] at this
    omega
  · intro h q hq
    obtain ⟨k, hk, rfl⟩ := List.mem_map.mp hq
    simp only [get_pN hk, eqF, h k hk, beq_self_eq_true]
theorem eq_dct {x y : List (Key × P)} {S : Cells} : cmpOp .eq (.v (.dct x)) (.v (.dct y)) S = match eqS (.dct x) (.dct y) with | some b => .ok (.v (.bl b), S) | none => .no := rfl
theorem dc_mT {C : Cn} {env : Env} {own : List (Str × Nat)} {tg : Tg} {it k v : E} {S0 : Cells} {α : Type} {ps : List P} {S : Cells} (ys : List α) (q : α → P) (f : α → Key × P) (hi : evI C it env S0 = .ok (.st (ps.map .v), S)) (hp : ps = ys.map q) (hz : ys.length ≤ lim) (hn : (ys.map fun y => (f y).1).Nodup)
    (step : ∀ y ∈ ys, ∀ R, ∃ e0, setTg tg (.v (q y)) (wipeE env (own.map (·.2))) = some e0 ∧ evE C k e0 (S ++ [R]) = .ok (.v (kP (f y).1), S ++ [R]) ∧ evE C v e0 (S ++ [R]) = .ok (.v (f y).2, S ++ [R])) :
    evE C (.dc true own tg it .nil k v) env S0 = .ok (.c S.length, S ++ [.dct (ys.map fun y => ((f y).1, .v (f y).2))]) := by
  have hkk : ∀ k : Key, keyOf (kP k) = some k := fun k => by cases k <;> rfl
  have lp : ∀ (todo done : List α), ys = done ++ todo →
      loopL (dcTurn C env own tg .nil k v S.length) (todo.map fun y => .v (q y)) (S ++ [.dct (done.map fun y => ((f y).1, W.v (f y).2))]) = .ok (S ++ [.dct (ys.map fun y => ((f y).1, W.v (f y).2))]) := by
    intro todo
    induction todo with
    | nil =>
      intro done h
      rw [List.append_nil] at h
      subst h
      rfl
    | cons y todo ih =>
      intro done h
      have hlen : done.length < lim := by
        have h1 := congrArg List.length h
        simp at h1
        omega
      obtain ⟨e0, h1, h4, h5⟩ := step y (by rw [h]; simp) (.dct (done.map fun y => ((f y).1, W.v (f y).2)))
      have hs : setK (done.map fun y => ((f y).1, W.v (f y).2)) (f y).1 (.v (f y).2) = (done ++ [y]).map fun y => ((f y).1, W.v (f y).2) := by
        unfold setK
        rw [if_neg]
        · simp
        · intro e
          obtain ⟨z, hz, e⟩ := List.any_eq_true.mp e
          obtain ⟨u, hu, rfl⟩ := List.mem_map.mp hz
          have e : (f u).1 = (f y).1 := of_decide_eq_true e
          rw [h, List.map_append, List.nodup_append] at hn
          exact hn.2.2 _ (List.mem_map_of_mem hu) (f y).1 (by simp) e
      have hlow : Cell.lows S.length (.dct ((done ++ [y]).map fun y => ((f y).1, W.v (f y).2))) = true := by
        show List.all _ _ = true
        rw [List.all_map]
        exact List.all_eq_true.mpr fun _ _ => rfl
      have ht : dcTurn C env own tg .nil k v S.length (.v (q y)) (S ++ [.dct (done.map fun y => ((f y).1, W.v (f y).2))]) = .ok (S ++ [.dct ((done ++ [y]).map fun y => ((f y).1, W.v (f y).2))]) := by
        unfold dcTurn
        rw [h1]
        simp only [vif_nil, b_ok, if_pos, h4, h5, hkk]
        unfold putC
        simp only [ap_at, List.getElem?_cons_zero, List.length_map, if_pos hlen, hs]
        rw [wr_eq, if_pos hlow]
        simp
      simp only [List.map_cons, loopL, ht, b_ok]
      exact ih (done ++ [y]) (by simp [h])
  have := lp ys [] rfl
  simp only [evE, hi, b_ok, loopI]
  show (loopL (dcTurn C env own tg .nil k v S.length) (ps.map .v) (S ++ [.dct []])).bind _ = _
  rw [hp, List.map_map]
  rw [show (W.v ∘ q) = fun y => W.v (q y) from rfl, show (Cell.dct []) = Cell.dct (([] : List α).map fun y => ((f y).1, W.v (f y).2)) from rfl, this]
  simp [finC]
theorem rng_n {n : Nat} (h : n < 1000000) : rngOf [.v (.int n)] = .ok (.st ((List.range n).map fun (i : Nat) => W.v (.int (0 + (i : Int))))) := by
  simp only [rngOf]
  rw [if_pos (by omega)]
  simp
end LS

set_option Elab.async false
set_option linter.all false
set_option maxRecDepth 100000
set_option maxHeartbeats 4000000
/-! LX14: ranks. -/
namespace LS
open PySem L2
theorem mx_nat (a b : Nat) : (if ((b : Int) + 1) > (a : Int) then ((b : Int) + 1) else (a : Int)) = ((max a (b + 1) : Nat) : Int) := by
  split <;> omega
def pR (f : Str → Nat) (k : Str) : P := .tup [.str k, .int (f k)]
section
variable {T : Str → Option Fn} {g : Gm} (b : BkR T g)
include b
theorem ranks_gen {d : Nat} {S : Cells} {ks : List (Str × Bool)} {cs : List Col} {ch : List Str} {Q : W × Cells → Prop} (hT : T "ranks" = some (.fn 6 1 [] f_ranksO true)) (h : Shape ks cs) (hl : cs.length ≤ 10) (hl2 : ks.length ≤ 10) (hfu : 100 < g.fu) (Inv : Nat → (Str → Nat) → Prop) (h0 : Inv 0 fun _ => 0)
    (hs : ∀ t f, t ≤ (tightL ks cs ch).length → Inv t f → ((∀ k ∈ tightL ks cs ch, stepF (tightC ks cs ch) f f k = f k) → Q (.c S.length, S ++ [.lst (((tightL ks cs ch).map (pR (stepF (tightC ks cs ch) f f))).map .v)])) ∧ (¬ (∀ k ∈ tightL ks cs ch, stepF (tightC ks cs ch) f f k = f k) → Inv (t + 1) (stepF (tightC ks cs ch) f f)))
    (hend : ∀ f, Inv ((tightL ks cs ch).length + 1) f → Q (.v .non, S)) : WX (callF T g (d + 5) "ranks" [.v (pBook ks cs ch)] S) Q fun _ _ _ => False := by
  refine call_fn hT rfl ?_
  have hn : (tightL ks cs ch).Nodup := ((List.nodup_append.mp h.nd).1.filter _).filter _
  have hNl := tight_len ks cs ch
  have htk := fun S => tight_kinds_ok b (d := d + 1) (S := S) (ch := ch) h hl hl2 hfu
  have htc := fun S => tight_columns_ok b (d := d) (S := S) (ch := ch) h hl hl2 hfu
  simp [-List.map_map, f_ranksO, startE]
  rw [dc_mT (S := S) (ps := (tightL ks cs ch).map .str) (tightL ks cs ch) .str (fun k => (.inr k, .int ((0 : Nat) : Int))) (by simp [-List.map_map, b.gTightKinds, htk]) rfl (by rw [lim_v]; omega) (nodup_inr (f := fun k => k) (by simpa using hn)) (fun y hy R => ⟨_, rfl, by simp, by simp⟩)]
  simp only [l_ok, sq_nx, sq_lift]
  show WS (lift _ _ _) _
  have hd0 : ((tightL ks cs ch).map fun k => ((.inr k : Key), W.v (.int ((0 : Nat) : Int)))) = dN (tightL ks cs ch) fun _ => 0 := rfl
  rw [hd0]
  have hlen0 : ∀ f, (pN (tightL ks cs ch) f).length = (tightL ks cs ch).length := fun f => by simp [pN]
  have hlend : ∀ f, (dN (tightL ks cs ch) f).length = (tightL ks cs ch).length := fun f => by simp [dN]
  simp [-List.map_map, hlen0]
  rw [show (((tightL ks cs ch).length : Int) + 1) = (((tightL ks cs ch).length + 1 : Nat) : Int) by omega, rng_n (by omega)]
  simp [-List.map_map]
  rw [WS_seq]
  refine WS_for (fun xs env S' => ∃ (t : Nat) (f : Str → Nat) (o2 o3 o4 : Option W), xs.length + t = (tightL ks cs ch).length + 1 ∧ env = [some (.v (pBook ks cs ch)), some (.c S.length), o2, o3, o4, none] ∧ S' = S ++ [.dct (dN (tightL ks cs ch) f)] ∧ Inv t f) ?_ ?_ ⟨0, _, none, none, none, by simp, rfl, rfl, h0⟩
  · rintro x xs env S' ⟨t, f, o2, o3, o4, ht, rfl, rfl, hI⟩
    refine ⟨_, rfl, ?_⟩
    simp only [List.length_cons] at ht
    simp [-List.map_map, b.gTightColumns, htc]
    rw [WS_seq]
    refine WS_forM (tightC ks cs ch) pCol (fun done env S' => ∃ (o4 : Option W), env = [some (.v (pBook ks cs ch)), some (.c S.length), some x, some (.v (.dct (pN (tightL ks cs ch) f))), o4, none] ∧ S' = S ++ [.dct (dN (tightL ks cs ch) (stepF done f f))]) rfl ⟨o4, rfl, rfl⟩ ?_ ?_
    · rintro done c todo env S' hy ⟨o4, rfl, rfl⟩
      refine ⟨_, rfl, ?_⟩
      have hm : c ∈ tightC ks cs ch := by rw [hy]; simp
      have hmm := (List.mem_filter.mp hm).2
      simp only [Bool.and_eq_true, decide_eq_true_eq] at hmm
      have hset : setK (dN (tightL ks cs ch) (stepF done f f)) (.inr c.home) (.v (.int ((max (stepF done f f c.home) (f c.goal + 1) : Nat) : Int))) = dN (tightL ks cs ch) (stepF (done ++ [c]) f f) := by
        rw [set_dN hmm.1, step_snoc]
        unfold dN
        apply List.map_congr_left
        intro k _
        unfold updF
        by_cases e : k = c.home <;> simp [e]
      simp [-List.map_map, b.fC2, b.fC3, get_dN hmm.1, get_pN hmm.2, ixP, keyOf, hlend, lim_v, show (tightL ks cs ch).length < 1000000 by omega]
      rw [mx_nat, hset]
      simp [low_dN]
    · rintro env S' ⟨o4, rfl, rfl⟩
      simp [-List.map_map, eq_dct, eqD_N]
      obtain ⟨q1, q2⟩ := hs t f (by omega) hI
      by_cases he : ∀ k ∈ tightL ks cs ch, stepF (tightC ks cs ch) f f k = f k
      · have q1 := q1 he
        rw [if_pos he]
        have hit : ((pN (tightL ks cs ch) (stepF (tightC ks cs ch) f f)).map fun z => P.tup [kP z.1, z.2]) = (tightL ks cs ch).map (pR (stepF (tightC ks cs ch) f f)) := by
          simp [pN, pR, kP]
        rw [hit]
        simp [-List.map_map]
        rw [if_neg (by omega)]
        exact q1
      · rw [if_neg he]
        simp [-List.map_map]
        exact ⟨t + 1, by omega, _, rfl, q2 he⟩
  · rintro env S' ⟨t, f, o2, o3, o4, ht, rfl, rfl, hI⟩
    simp at ht
    simp
    exact hend f (ht ▸ hI)
end
end LS

set_option Elab.async false
set_option linter.all false
set_option maxRecDepth 100000
set_option maxHeartbeats 4000000
/-! LX15: ranks, by the laws. -/
namespace LS
open PySem L2
theorem eqv_nil : ∀ (ds : List PyData), PyData.eqv (.list ds) (.list []) = ds.isEmpty
  | [] => by simp [PyData.eqv, PyData.eqvAll]
  | d :: ds => by simp [PyData.eqv, PyData.eqvAll]
theorem eq_nilR {ps : List P} {n w : Nat} (h : RO (.lst ps) n w) (hn : n ≤ 64) : eqP (.lst ps) (.lst []) = some ps.isEmpty := by
  obtain ⟨d, h1, h2, h3, h4, h5, h6⟩ := h
  have hp : ∃ ds, pyAll ps = some ds ∧ d = .list ds ∧ ds.isEmpty = ps.isEmpty := by
    cases hq : pyAll ps with
    | none => simp [P.py, hq] at h1
    | some ds =>
      simp [P.py, hq] at h1
      refine ⟨ds, rfl, h1.symm, ?_⟩
      cases ps with
      | nil => cases hq; rfl
      | cons p ps =>
        simp only [pyAll] at hq
        split at hq
        · cases hq; rfl
        · cases hq
  obtain ⟨ds, e1, rfl, e2⟩ := hp
  unfold eqP
  have hd : (PyData.list ds).depth ≤ 64 := Nat.le_trans h3 hn
  rw [h1, show (P.lst []).py = some (.list []) from rfl]
  simp only
  rw [if_pos]
  · rw [eqv_nil, e2]
  · have e3 : SeqAt.shaped (.list ds) = true := by
      simp only [SeqAt.shaped, h2, Bool.true_and, decide_eq_true_eq]
      exact hd
    rw [e3]
    rfl
theorem ne_nilR {ps : List P} {n w : Nat} {S : Cells} (h : RO (.lst ps) n w) (hn : n ≤ 64) : cmpOp .ne (.v (.lst ps)) (.v (.lst [])) S = .ok (.v (.bl (!ps.isEmpty)), S) := by
  simp only [cmpOp, vw_v, cmpP]
  rw [show eqS (.lst ps) (.lst []) = eqP (.lst ps) (.lst []) from rfl, eq_nilR h hn]
  rfl
theorem eq_nilC {ps : List P} {n w : Nat} {S : Cells} (h : RO (.lst ps) n w) (hn : n ≤ 64) : cmpOp .eq (.v (.lst ps)) (.v (.lst [])) S = .ok (.v (.bl ps.isEmpty), S) := by
  simp only [cmpOp, vw_v, cmpP]
  rw [show eqS (.lst ps) (.lst []) = eqP (.lst ps) (.lst []) from rfl, eq_nilR h hn]
  rfl
theorem ro_goods {xs : List Str} (h : ∀ x ∈ xs, good x) : RO (.lst (xs.map .str)) 1 (xs.length * 101) := ro_strs fun x hx => ⟨strOk_low (h x hx).2.2.2, by have := (h x hx).2.1; omega⟩
theorem ro_pT {e : Str × Str} (h1 : good e.1) (h2 : good e.2) : RO (pT e) 1 18 := by
  have := ro_tup (n := 0) (w := 8) (ps := [.str e.1, .str e.2]) fun p hp => by
    rcases List.mem_cons.mp hp with rfl | hp
    · exact (ro_str (strOk_low h1.2.2.2)).mono (Nat.le_refl _) h1.2.1
    · rcases List.mem_cons.mp hp with rfl | hp
      · exact (ro_str (strOk_low h2.2.2.2)).mono (Nat.le_refl _) h2.2.1
      · cases hp
  exact this.mono (Nat.le_refl _) (by simp)
/-- the ranks of the nodes N by the edges Es -/
def RankEq (Es : List (Str × Str)) (r : Str → Nat) (k : Str) : Prop := (∀ g, (k, g) ∈ Es → r g + 1 ≤ r k) ∧ (r k = 0 ∨ ∃ g, (k, g) ∈ Es ∧ r k = r g + 1)
theorem put_dN {K : List Str} {r : Str → Nat} {k : Str} {v : Nat} (h : k ∉ K) : setK (dN K r) (.inr k) (.v (.int v)) = dN (K ++ [k]) (fun x => if x = k then v else r x) := by
  rw [setK_new]
  · unfold dN
    rw [List.map_append]
    congr 1
    · apply List.map_congr_left
      intro x hx
      show _ = ((Sum.inr x : Key), W.v (P.int ((if x = k then v else r x : Nat) : Int)))
      rw [if_neg (fun (e : x = k) => h (e ▸ hx))]
    · simp
  · intro q hq e
    obtain ⟨x, hx, rfl⟩ := List.mem_map.mp hq
    exact h (Sum.inr.inj e ▸ hx)
section
variable {T : Str → Option Fn} {g : Gm} (b : LwR T g)
include b
theorem lranks_ok {d : Nat} {S : Cells} {w : W} {ks : List (Str × Bool)} {cs : List Col} {ch : List Str} {Q : W × Cells → Prop} (hT : T "_law_ranks" = some (.fn 9 1 [] f__law_ranks false)) (hw : BAt w S ks cs ch) (h : Shape ks cs) (hl : cs.length ≤ 10) (hl2 : ks.length ≤ 10) (hfu : 100 < g.fu)
    (q1 : ∀ r, (∀ k ∈ tightL ks cs ch, RankEq (tieL ks cs ch) r k ∧ r k ≤ (tightL ks cs ch).length) → Q (.v (.lst ((tightL ks cs ch).map (pR r))), S))
    (q2 : ∀ L : List Str, L ≠ [] → (∀ k ∈ L, k ∈ tightL ks cs ch ∧ ∃ g ∈ L, (k, g) ∈ tieL ks cs ch) → Q (.v .non, S)) : WX (callF T g (d + 4) "_law_ranks" [w] S) Q fun _ _ _ => False := by
  refine call_fn hT rfl ?_
  have hNn : (tightL ks cs ch).Nodup := ((List.nodup_append.mp h.nd).1.filter _).filter _
  have hNg : ∀ k ∈ tightL ks cs ch, good k := fun k hk => h.good k (List.mem_append_left _ (tight_mem hk))
  have hNl := tight_len ks cs ch
  have hE : ∀ e ∈ tieL ks cs ch, e.1 ∈ tightL ks cs ch ∧ e.2 ∈ tightL ks cs ch := fun e he => by
    obtain ⟨c, hc, rfl⟩ := List.mem_map.mp he
    have := (List.mem_filter.mp hc).2
    simpa using this
  have hEl : (tieL ks cs ch).length ≤ 10 := by
    have h1 := List.length_filter_le fallB cs
    have h2 := List.length_filter_le (fun c : Col => decide (c.home ∈ tightL ks cs ch) && decide (c.goal ∈ tightL ks cs ch)) (cs.filter fallB)
    simp only [tieL, tightC, List.length_map]
    omega
  obtain ⟨N, hN⟩ : ∃ N, N = tightL ks cs ch := ⟨_, rfl⟩
  obtain ⟨Es, hEs⟩ : ∃ Es, Es = tieL ks cs ch := ⟨_, rfl⟩
  have ht := fun l => ltight_ok b (d := d + 1) (hw.app l) h hl hl2
  have hti := lties_ok b (d := d) hw h hl hl2
  have ht0 := ltight_ok b (d := d + 1) hw h hl hl2
  rw [← hN] at hNn hNg hNl hE q1 q2 ht ht0
  rw [← hEs] at hE hEl q1 q2 hti
  simp [-List.map_map, f__law_ranks, startE, b.gTight, b.gTies, ht0, hti]
  rw [WS_seq]
  refine WS_while (fun m env S' => ∃ (left K : List Str) (r : Str → Nat) (o4 o5 o6 o7 : Option W), env = [some w, some (.v (.lst (left.map P.str))), some (.v (.lst (Es.map pT))), some (.c S.length), o4, o5, o6, o7, none] ∧ S' = S ++ [.dct (dN K r)] ∧ m = left.length ∧
      left.Sublist N ∧ K.Nodup ∧ (∀ k ∈ N, k ∈ left ∨ k ∈ K) ∧ (∀ k ∈ K, k ∈ N ∧ k ∉ left) ∧ (∀ k ∈ K, RankEq Es r k ∧ (∀ g, (k, g) ∈ Es → g ∈ K) ∧ r k < K.length)) ?_ g.fu N.length _ _ (by omega) ⟨N, [], fun _ => 0, none, none, none, none, rfl, rfl, rfl, List.Sublist.refl _, List.nodup_nil, fun k hk => .inl hk, (fun k hk => by cases hk), (fun k hk => by cases hk)⟩
  rintro m env S' ⟨left, K, r, o4, o5, o6, o7, rfl, rfl, rfl, hsub, hKn, hcov, hK, hR⟩
  have hlg : ∀ k ∈ left, good k := fun k hk => hNg k (hsub.subset hk)
  have hll : left.length ≤ N.length := hsub.length_le
  have rol := ro_goods hlg
  simp [-List.map_map, evT, lim_v, ne_nilR rol (by decide)]
  by_cases hle : left = []
  · subst hle
    simp [-List.map_map]
    have hgl : ∀ k ∈ N, k ∈ K := fun k hk => (hcov k hk).resolve_left (fun z => by cases z)
    have hKl : K.length ≤ N.length := hKn.length_le_of_subset fun k hk => (hK k hk).1
    rw [lc_m (S := S ++ [.dct (dN K r)]) (ps := N.map .str) N .str (pR r) (by simp [-List.map_map, b.gTight, ht]) rfl (by rw [lim_v]; omega) (fun y hy R => ⟨_, rfl, by simp [get_dN (hgl y hy), lim_v, pR]⟩)]
    simp [-List.map_map]
    exact q1 r fun k hk => ⟨(hR k (hgl k hk)).1, by have := (hR k (hgl k hk)).2.2; omega⟩
  · have hle' : left.isEmpty = false := by cases left <;> simp_all
    simp [-List.map_map, hle]
    obtain ⟨free, hfree⟩ : ∃ free, free = left.filter fun k => (Es.filter fun e => decide (e.1 = k) && decide (e.2 ∈ left)).isEmpty := ⟨_, rfl⟩
    rw [lc_p (S := S ++ [.dct (dN K r)]) (ps := left.map .str) left .str (fun k => (Es.filter fun e => decide (e.1 = k) && decide (e.2 ∈ left)).isEmpty) .str (by simp [-List.map_map]) rfl (by rw [lim_v]; omega) (fun y hy R => ⟨_, rfl, by
      have hfl := List.length_filter_le (fun e : Str × Str => decide (e.1 = y) && decide (e.2 ∈ left)) Es
      have roT : RO (.lst ((Es.filter fun e => decide (e.1 = y) && decide (e.2 ∈ left)).map pT)) 2 1000 := (ro_lst (n := 1) (w := 18) fun p hp => by
        obtain ⟨e, he, rfl⟩ := List.mem_map.mp hp
        have he := hE e (List.mem_filter.mp he).1
        exact ro_pT (hNg _ he.1) (hNg _ he.2)).mono (Nat.le_refl _) (by rw [List.length_map]; omega)
      simp [-List.map_map]
      rw [lc_p (S := S ++ [.dct (dN K r), R]) (ps := Es.map pT) Es pT (fun e => decide (e.1 = y) && decide (e.2 ∈ left)) pT (by simp [-List.map_map]) rfl (by rw [lim_v]; omega) (fun e he R2 => ⟨_, rfl, by
        by_cases h1 : e.1 = y <;> simp [pT, ixP, atI, ixN, h1], by simp⟩)]
      simp [-List.map_map, lim_v, eq_nilC roT (by decide)], by simp⟩)]
    rw [← hfree]
    have hfs : free.Sublist left := by rw [hfree]; exact List.filter_sublist
    have rof := ro_goods fun k hk => hlg k (hfs.subset hk)
    have hfl : free.length ≤ left.length := hfs.length_le
    simp [-List.map_map, eq_nilC rof (by decide)]
    by_cases hfe : free = []
    · subst hfe
      simp
      refine q2 left hle fun k hk => ⟨hsub.subset hk, ?_⟩
      have : ¬ (Es.filter fun e => decide (e.1 = k) && decide (e.2 ∈ left)).isEmpty = true := fun z => by
        have : k ∈ left.filter fun k => (Es.filter fun e => decide (e.1 = k) && decide (e.2 ∈ left)).isEmpty := List.mem_filter.mpr ⟨hk, z⟩
        rw [← hfree] at this
        cases this
      cases hq : Es.filter (fun e => decide (e.1 = k) && decide (e.2 ∈ left)) with
      | nil => rw [hq] at this; exact absurd rfl this
      | cons e _ =>
        have he : e ∈ Es.filter (fun e => decide (e.1 = k) && decide (e.2 ∈ left)) := by rw [hq]; exact List.mem_cons_self
        obtain ⟨h1, h2⟩ := List.mem_filter.mp he
        simp only [Bool.and_eq_true, decide_eq_true_eq] at h2
        exact ⟨e.2, h2.2, by rw [← h2.1]; exact h1⟩
    · simp [-List.map_map, hfe]
      have hfm : ∀ k ∈ free, k ∈ left ∧ ∀ g, (k, g) ∈ Es → g ∈ K := fun k hk => by
        rw [hfree] at hk
        obtain ⟨h1, h2⟩ := List.mem_filter.mp hk
        refine ⟨h1, fun g hg => ?_⟩
        rcases hcov g (hE _ hg).2 with h3 | h3
        · have : (k, g) ∈ Es.filter fun e => decide (e.1 = k) && decide (e.2 ∈ left) := List.mem_filter.mpr ⟨hg, by simp [h3]⟩
          rw [List.isEmpty_iff.mp h2] at this
          cases this
        · exact h3
      have hfn : free.Nodup := hNn.sublist (hfs.trans hsub)
      have hfK : ∀ k ∈ free, k ∉ K := fun k hk hk2 => (hK k hk2).2 (hfs.subset hk)
      rw [WS_seq]
      refine WS_forM free .str (fun done env S' => ∃ (r' : Str → Nat) (o5 o6 o7 : Option W), env = [some w, some (.v (.lst (left.map P.str))), some (.v (.lst (Es.map pT))), some (.c S.length), some (.v (.lst (free.map P.str))), o5, o6, o7, none] ∧ S' = S ++ [.dct (dN (K ++ done) r')] ∧ (∀ k ∈ K, r' k = r k) ∧
        ∀ k ∈ done, (∀ g, (k, g) ∈ Es → r g + 1 ≤ r' k) ∧ (r' k = 0 ∨ ∃ g, (k, g) ∈ Es ∧ r' k = r g + 1)) rfl ⟨r, o5, o6, o7, rfl, by simp, fun _ _ => rfl, fun k hk => by cases hk⟩ ?_ ?_
      · rintro done kind todo env S' hy ⟨r', p5, p6, p7, rfl, rfl, hr1, hr2⟩
        refine ⟨_, rfl, ?_⟩
        have hkm : kind ∈ free := by rw [hy]; simp
        have hkd : kind ∉ done := by
          rw [hy, List.nodup_append] at hfn
          exact fun z => hfn.2.2 _ z _ (by simp) rfl
        have hkn : kind ∉ K ++ done := fun z => (List.mem_append.mp z).elim (hfK kind hkm) hkd
        have hdl : (dN (K ++ done) r').length < 1000000 := by
          have h1 : K.length ≤ N.length := hKn.length_le_of_subset fun k hk => (hK k hk).1
          have h2 : done.length ≤ free.length := by rw [hy]; simp
          simp [dN]
          omega
        have hput : setK (dN (K ++ done) r') (.inr kind) (.v (.int 0)) = dN (K ++ (done ++ [kind])) (fun x => if x = kind then 0 else r' x) := by
          rw [← List.append_assoc]
          exact put_dN (v := 0) hkn
        simp [-List.map_map, lim_v, hdl, hput, low_dN]
        rw [WS_seq]
        refine WS_forM Es pT (fun done2 env S' => ∃ (v : Nat) (p6 p7 : Option W), env = [some w, some (.v (.lst (left.map P.str))), some (.v (.lst (Es.map pT))), some (.c S.length), some (.v (.lst (free.map P.str))), some (.v (.str kind)), p6, p7, none] ∧ S' = S ++ [.dct (dN (K ++ (done ++ [kind])) fun x => if x = kind then v else r' x)] ∧
          (∀ g, (kind, g) ∈ done2 → r g + 1 ≤ v) ∧ (v = 0 ∨ ∃ g, (kind, g) ∈ done2 ∧ v = r g + 1)) rfl ⟨0, p6, p7, rfl, rfl, (fun g hg => by cases hg), .inl rfl⟩ ?_ ?_
        · rintro done2 e todo2 env S' hy2 ⟨v, p6, p7, rfl, rfl, hv1, hv2⟩
          refine ⟨_, rfl, ?_⟩
          have hem : e ∈ Es := by rw [hy2]; simp
          by_cases hek : e.1 = kind
          · have hgK : e.2 ∈ K := (hfm kind hkm).2 e.2 (by rw [← hek]; exact hem)
            have hgk : e.2 ≠ kind := fun z => hfK kind hkm (z ▸ hgK)
            have hg1 : getK (dN (K ++ (done ++ [kind])) fun x => if x = kind then v else r' x) (.inr e.2) = some (.v (.int (r e.2))) := by
              rw [get_dN (by simp [hgK]), if_neg hgk, hr1 _ hgK]
            have hg2 : getK (dN (K ++ (done ++ [kind])) fun x => if x = kind then v else r' x) (.inr kind) = some (.v (.int v)) := by
              rw [get_dN (by simp), if_pos rfl]
            have hset : setK (dN (K ++ (done ++ [kind])) fun x => if x = kind then v else r' x) (.inr kind) (.v (.int ((r e.2 : Int) + 1))) = dN (K ++ (done ++ [kind])) fun x => if x = kind then r e.2 + 1 else r' x := by
              have := set_dN (f := fun x => if x = kind then v else r' x) (v := r e.2 + 1) (N := K ++ (done ++ [kind])) (h := kind) (by simp)
              rw [show ((r e.2 : Int) + 1) = ((r e.2 + 1 : Nat) : Int) by omega, this]
              unfold dN
              apply List.map_congr_left
              intro x _
              by_cases hx : x = kind <;> simp [hx]
            have hdl2 : ∀ f, (dN (K ++ (done ++ [kind])) f).length < 1000000 := fun f => by
              have h1 : K.length ≤ N.length := hKn.length_le_of_subset fun k hk => (hK k hk).1
              have h2 : done.length ≤ free.length := by rw [hy]; simp
              simp [dN]
              omega
            by_cases hc : v ≤ r e.2
            · have hc' : (v : Int) ≤ (r e.2 : Int) := by omega
              simp [-List.map_map, hek, hg1, hg2, hset, lim_v, hdl2, low_dN, hc']
              refine ⟨r e.2 + 1, rfl, fun g hg => ?_, .inr ⟨e.2, .inr (Prod.ext hek.symm rfl), rfl⟩⟩
              rcases hg with hg | hg
              · have := hv1 g hg
                omega
              · rw [← hg]
                exact Nat.le_refl _
            · have hc' : ¬ (v : Int) ≤ (r e.2 : Int) := by omega
              simp [-List.map_map, hek, hg1, hg2, hset, lim_v, hdl2, low_dN, hc']
              refine ⟨v, rfl, fun g hg => ?_, hv2.imp id fun ⟨g, h1, h2⟩ => ⟨g, .inl h1, h2⟩⟩
              rcases hg with hg | hg
              · exact hv1 g hg
              · have : g = e.2 := by rw [← hg]
                rw [this]
                omega
          · simp [-List.map_map, hek]
            refine ⟨v, rfl, fun g hg => ?_, hv2.imp id fun ⟨g, h1, h2⟩ => ⟨g, .inl h1, h2⟩⟩
            rcases hg with hg | hg
            · exact hv1 g hg
            · exact absurd (by rw [← hg]) hek
        · rintro env S' ⟨v, p6, p7, rfl, rfl, hv1, hv2⟩
          simp [-List.map_map]
          refine ⟨_, rfl, fun k hk => ?_, fun k hk => ?_⟩
          · rw [if_neg (fun (z : k = kind) => hfK kind hkm (z ▸ hk))]
            exact hr1 k hk
          · by_cases hkk : k = kind
            · subst hkk
              rw [if_pos rfl]
              exact ⟨hv1, hv2⟩
            · rw [if_neg hkk]
              exact hr2 k (hk.resolve_right hkk)
      · rintro env S' ⟨r', p5, p6, p7, rfl, rfl, hr1, hr2⟩
        simp [-List.map_map]
        rw [lc_p (S := S ++ [.dct (dN (K ++ free) r')]) (ps := left.map .str) left .str (fun k => !decide (k ∈ free)) .str (by simp [-List.map_map]) rfl (by rw [lim_v]; omega) (fun y hy R => ⟨_, rfl, by simp, by simp⟩)]
        simp [-List.map_map]
        obtain ⟨f0, hf0⟩ := List.exists_mem_of_ne_nil free hfe
        have hlt : (left.filter fun k => !decide (k ∈ free)).length < left.length := by
          rw [List.length_filter_lt_length_iff_exists]
          exact ⟨f0, hfs.subset hf0, by simp [hf0]⟩
        have hfp : 0 < free.length := List.length_pos_iff.mpr hfe
        refine ⟨_, hlt, _, rfl, K ++ free, r', rfl, rfl, List.filter_sublist.trans hsub, ?_, fun k hk => ?_, fun k hk => ?_, fun k hk => ?_⟩
        · rw [List.nodup_append]
          exact ⟨hKn, hfn, fun a ha c hc e => hfK c hc (e ▸ ha)⟩
        · rcases hcov k hk with h1 | h1
          · by_cases h2 : k ∈ free
            · exact .inr (List.mem_append_right _ h2)
            · exact .inl (List.mem_filter.mpr ⟨h1, by simp [h2]⟩)
          · exact .inr (List.mem_append_left _ h1)
        · rcases List.mem_append.mp hk with h1 | h1
          · exact ⟨(hK k h1).1, fun z => (hK k h1).2 (List.mem_filter.mp z).1⟩
          · exact ⟨hsub.subset (hfs.subset h1), fun z => by have := (List.mem_filter.mp z).2; simp [h1] at this⟩
        · rcases List.mem_append.mp hk with h1 | h1
          · obtain ⟨⟨e1, e2⟩, e3, e4⟩ := hR k h1
            refine ⟨⟨fun g hg => ?_, ?_⟩, fun g hg => List.mem_append_left _ (e3 g hg), ?_⟩
            · rw [hr1 k h1, hr1 g (e3 g hg)]
              exact e1 g hg
            · rw [hr1 k h1]
              exact e2.imp id fun ⟨g, h3, h4⟩ => ⟨g, h3, by rw [hr1 g (e3 g h3)]; exact h4⟩
            · rw [hr1 k h1, List.length_append]
              omega
          · obtain ⟨e1, e2⟩ := hr2 k h1
            have e3 := (hfm k h1).2
            refine ⟨⟨fun g hg => ?_, e2.imp id fun ⟨g, h3, h4⟩ => ⟨g, h3, by rw [hr1 g (e3 g h3)]; exact h4⟩⟩, fun g hg => List.mem_append_left _ (e3 g hg), ?_⟩
            · rw [hr1 g (e3 g hg)]
              exact e1 g hg
            · rw [List.length_append]
              rcases e2 with e2 | ⟨g, h3, h4⟩
              · omega
              · have := (hR g (e3 g h3)).2.2
                omega
end
end LS

set_option Elab.async false
set_option linter.all false
set_option maxRecDepth 100000
set_option maxHeartbeats 4000000
/-! LX16: the two ranks are one. -/
namespace LS
open PySem L2
theorem tie_of {ks : List (Str × Bool)} {cs : List Col} {ch : List Str} {c : Col} (h : c ∈ tightC ks cs ch) : (c.home, c.goal) ∈ tieL ks cs ch := List.mem_map.mpr ⟨c, h, rfl⟩
theorem tie_to {ks : List (Str × Bool)} {cs : List Col} {ch : List Str} {k g : Str} (h : (k, g) ∈ tieL ks cs ch) : ∃ c ∈ tightC ks cs ch, c.home = k ∧ c.goal = g := by
  obtain ⟨c, hc, e⟩ := List.mem_map.mp h
  exact ⟨c, hc, congrArg Prod.fst e, congrArg Prod.snd e⟩
theorem tie_in {ks : List (Str × Bool)} {cs : List Col} {ch : List Str} {k g : Str} (h : (k, g) ∈ tieL ks cs ch) : k ∈ tightL ks cs ch ∧ g ∈ tightL ks cs ch := by
  obtain ⟨c, hc, rfl, rfl⟩ := tie_to h
  simpa using (List.mem_filter.mp hc).2
theorem exists_min {L : List Str} (h : L ≠ []) (f : Str → Nat) : ∃ k ∈ L, ∀ g ∈ L, f k ≤ f g := by
  induction L with
  | nil => exact absurd rfl h
  | cons a L ih =>
    by_cases hL : L = []
    · subst hL
      exact ⟨a, by simp, fun g hg => by have : g = a := by simpa using hg
                                        rw [this]; exact Nat.le_refl _⟩
    · obtain ⟨k, hk, hm⟩ := ih hL
      by_cases hc : f a ≤ f k
      · refine ⟨a, by simp, fun g hg => ?_⟩
        rcases List.mem_cons.mp hg with rfl | hg
        · exact Nat.le_refl _
        · exact Nat.le_trans hc (hm g hg)
      · refine ⟨k, List.mem_cons_of_mem _ hk, fun g hg => ?_⟩
        rcases List.mem_cons.mp hg with rfl | hg
        · omega
        · exact hm g hg
section
variable {T : Str → Option Fn} {g : Gm} (b : BkR T g)
include b
theorem ranks_some {d : Nat} {S : Cells} {ks : List (Str × Bool)} {cs : List Col} {ch : List Str} {r : Str → Nat} (hT : T "ranks" = some (.fn 6 1 [] f_ranksO true)) (h : Shape ks cs) (hl : cs.length ≤ 10) (hl2 : ks.length ≤ 10) (hfu : 100 < g.fu)
    (hr : ∀ k ∈ tightL ks cs ch, RankEq (tieL ks cs ch) r k ∧ r k ≤ (tightL ks cs ch).length) : callF T g (d + 5) "ranks" [.v (pBook ks cs ch)] S = .ok (.c S.length, S ++ [.lst (((tightL ks cs ch).map (pR r)).map .v)]) := by
  refine WX_fun (ranks_gen b hT h hl hl2 hfu (fun t f => (∀ k ∈ tightL ks cs ch, f k = min t (r k)) ∧ (t = 0 ∨ ∃ k ∈ tightL ks cs ch, t ≤ r k)) ⟨fun k _ => by simp, .inl rfl⟩ ?_ ?_)
  · rintro t f ht ⟨hf, _⟩
    have hg : ∀ k ∈ tightL ks cs ch, stepF (tightC ks cs ch) f f k = min (t + 1) (r k) := fun k hk => by
      obtain ⟨⟨e1, e2⟩, e3⟩ := hr k hk
      have hge := step_ge f k (tightC ks cs ch) f
      have hle : stepF (tightC ks cs ch) f f k ≤ min (t + 1) (r k) := by
        rcases step_or f k (tightC ks cs ch) f with h1 | ⟨c, hc, rfl, h1⟩
        · rw [h1, hf k hk]; omega
        · have := e1 _ (tie_of hc)
          rw [h1, hf _ (tie_in (tie_of hc)).2]
          omega
      rcases e2 with e2 | ⟨g', h1, h2⟩
      · omega
      · obtain ⟨c, hc, rfl, rfl⟩ := tie_to h1
        have := step_edge f (tightC ks cs ch) f hc
        rw [hf _ (tie_in h1).2] at this
        omega
    refine ⟨fun he => ?_, fun hne => ⟨hg, .inr ?_⟩⟩
    · have : (tightL ks cs ch).map (pR (stepF (tightC ks cs ch) f f)) = (tightL ks cs ch).map (pR r) := by
        apply List.map_congr_left
        intro k hk
        have h1 := he k hk
        rw [hg k hk, hf k hk] at h1
        unfold pR
        rw [hg k hk, show min (t + 1) (r k) = r k by omega]
      rw [this]
    · apply Classical.byContradiction
      intro hn
      apply hne
      intro k hk
      rw [hg k hk, hf k hk]
      have : ¬ t + 1 ≤ r k := fun z => hn ⟨k, hk, z⟩
      omega
  · rintro f ⟨_, h1⟩
    rcases h1 with h1 | ⟨k, hk, h1⟩
    · omega
    · have := (hr k hk).2
      omega
theorem ranks_none {d : Nat} {S : Cells} {ks : List (Str × Bool)} {cs : List Col} {ch : List Str} {L : List Str} (hT : T "ranks" = some (.fn 6 1 [] f_ranksO true)) (h : Shape ks cs) (hl : cs.length ≤ 10) (hl2 : ks.length ≤ 10) (hfu : 100 < g.fu)
    (hL : L ≠ []) (hr : ∀ k ∈ L, k ∈ tightL ks cs ch ∧ ∃ g ∈ L, (k, g) ∈ tieL ks cs ch) : callF T g (d + 5) "ranks" [.v (pBook ks cs ch)] S = .ok (.v .non, S) := by
  refine WX_fun (ranks_gen b hT h hl hl2 hfu (fun _ _ => True) trivial ?_ fun _ _ => rfl)
  intro t f _ _
  refine ⟨fun he => ?_, fun _ => trivial⟩
  obtain ⟨k, hk, hm⟩ := exists_min hL f
  obtain ⟨h1, g', hg, h2⟩ := hr k hk
  obtain ⟨c, hc, rfl, rfl⟩ := tie_to h2
  have h3 := step_edge f (tightC ks cs ch) f hc
  rw [he _ h1] at h3
  have := hm _ hg
  omega
end
/-! the rest of the law's own -/
@[simp] theorem notN_v {p : P} {S : Cells} : cmpOp .notN (.v p) (.v .non) S = .ok (.v (.bl (!isNon p)), S) := id rfl
@[simp] theorem isN_v {p : P} {S : Cells} : cmpOp .isN (.v p) (.v .non) S = .ok (.v (.bl (isNon p)), S) := id rfl
theorem dic_bk0S {S : Cells} {ks : List (Str × Bool)} {cs : List Col} {ch : List Str} {x : Str} : dicK false S.length ([(.inr "kinds", .v (.lst (ks.map pK))), (.inr "columns", .v (.lst (cs.map pC))), (.inr "checks", .v (.lst (ch.map .str ++ [.str x])))], S ++ [.dct []]) = .ok (.v (pB ks cs (ch ++ [x])), S) := dic_bk0
section
variable {T : Str → Option Fn} {g : Gm}
theorem with_ok (hT : T "_law_with" = some (.fn 2 2 [] f__law_with false)) {d : Nat} {S : Cells} {ks : List (Str × Bool)} {cs : List Col} {ch : List Str} {x : Str} (hl : ch.length ≤ 1000) : callF T g (d + 1) "_law_with" [.v (pB ks cs ch), .v (.str x)] S = .ok (.v (pB ks cs (ch ++ [x])), S) := by
  refine WX_fun (call_fn hT rfl ?_)
  simp [-List.map_map, f__law_with, startE, lim_v, show ch.length + 1 ≤ 1000000 by omega, dic_bk0]
theorem same_c (b : LwA T g) {d : Nat} {S : Cells} {ps : List P} {m n w : Nat} (hS : S[m]? = some (.lst (ps.map .v))) (h : RO (.lst ps) n w) (hn : n ≤ 64) (hw : w ≤ 60000) : callF T g (d + 1) "_law_same" [.c m, .v (.lst ps)] S = .ok (.v (.bl true), S) := by
  obtain ⟨r, hr⟩ := repr_ok h hn hw
  refine WX_fun (call_fn b.same rfl ?_)
  simp [f__law_same, startE, bfOp, hr, hS]
theorem bared_ok (b : LwR T g) (hT : T "_law_bared" = some (.fn 4 2 [] f__law_bared false)) (hW : T "_law_with" = some (.fn 2 2 [] f__law_with false)) (hg : g.fn "_law_with" = true) {d : Nat} {s : Sm} {rest : Cells} {B : Int} {ks : List (Str × Bool)} {cs : List Col} {ch : List Str} {Q : W × Cells → Prop} {E : XQ} (h : Shape ks cs) (hl2 : ks.length ≤ 3) (hc : ∀ x ∈ ch, x ∈ menuL (cs.map (·.name)) (ks.map (·.1))) (hcl : ch.length ≤ 500) (hs : s.ok B) (hB : B + 10 < 1000000)
    (k : ∀ (s' : Sm) (ch' : List Str), s'.ok (B + 3) → (∀ x ∈ ch', x ∈ menuL (cs.map (·.name)) (ks.map (·.1))) → Q (.v (pB ks cs ch'), s'.cells rest)) : WX (callF T g (d + 2) "_law_bared" [.c 1, .v (pB ks cs ch)] (s.cells rest)) Q E := by
  refine call_fn hT rfl ?_
  simp [-List.map_map, f__law_bared, startE]
  rw [WS_seq]
  refine WS_forM ks pK (fun done env S' => ∃ (s : Sm) (ch' : List Str) (o2 o3 : Option W), env = [some (.c 1), some (.v (pB ks cs ch')), o2, o3] ∧ S' = s.cells rest ∧ s.ok (B + done.length) ∧ (∀ x ∈ ch', x ∈ menuL (cs.map (·.name)) (ks.map (·.1))) ∧ ch'.length ≤ 500 + done.length) rfl ⟨s, ch, none, none, rfl, rfl, by simpa using hs, hc, by simpa using hcl⟩ ?_ ?_
  · rintro done y todo env S' hy ⟨s, ch', o2, o3, rfl, rfl, hs, hc, hcl⟩
    refine ⟨_, rfl, ?_⟩
    have hdl : done.length < 3 := by
      have := congrArg List.length hy
      simp at this
      omega
    have hm : y ∈ ks := by rw [hy]; simp
    have hgl := good_len (h.good y.1 (List.mem_append_left _ (List.mem_map_of_mem hm)))
    simp [-List.map_map, b.gDraw]
    rw [WS_lift, WX_bind]
    refine WX_draw b.draw hs (by omega) (by decide) (by decide) fun s1 r hs1 h0 h1 => ?_
    have hch := fun S => checksL_ok b (d := d) (S := S) (x := Str.ofString "bare") (y := y.1) (bat_v (ks := ks) (cs := cs) (ch := ch')) (by simp; omega)
    have hwi := fun S => with_ok (g := g) hW (d := d) (S := S) (ks := ks) (cs := cs) (ch := ch') (x := Str.ofString "bare " ++ y.1) (by omega)
    by_cases hr : 0 < r
    · by_cases hb : Str.ofString "bare" ++ Str.ofString " " ++ y.1 ∈ ch'
      · simp at hb hch
        simp [-List.map_map, hr, b.gChecks, hch, hb]
        exact ⟨s1, ch', rfl, rfl, hs1.mono (by omega), hc, by omega⟩
      · simp at hb hch
        simp [-List.map_map, hr, b.gChecks, hch, hb, lim_v, show 5 + y.1.length ≤ 1000000 by omega, hg, hwi]
        refine ⟨s1, ch' ++ [bareS y.1], rfl, rfl, hs1.mono (by omega), fun x hx => ?_, by simp; omega⟩
        rcases List.mem_append.mp hx with hx | hx
        · exact hc x hx
        · have : x = bareS y.1 := by simpa using hx
          rw [this]
          exact bare_menu (List.mem_map_of_mem hm)
    · simp [-List.map_map, hr]
      exact ⟨s1, ch', rfl, rfl, hs1.mono (by omega), hc, by omega⟩
  · rintro env S' ⟨s, ch', o2, o3, rfl, rfl, hs, hc, hcl⟩
    simp
    exact k s ch' (hs.mono (by omega)) hc
end
end LS

set_option Elab.async false
set_option linter.all false
set_option maxRecDepth 100000
set_option maxHeartbeats 1000000
/-! LY1: the further calls by simp; questions; numbers; rank papers. -/
namespace LS
open PySem L2
section
variable {C : Cn} {env : Env} {S : Cells} {a b k l d : E}
def pfK (f : PF) (o : Option P) (S : Cells) : R (W × Cells) := match o with
    | some x => match pfOp f x with
      | some p => .ok (.v p, S)
      | none => .no
    | none => .no
@[simp] theorem ev_pf {f : PF} : evE C (.pf f a) env S = (evE C a env S).bind fun q => pfK f (q.1.view q.2) q.2 := by simp only [evE] <;> rfl
@[simp] theorem pfK_s {f : PF} {p : P} : pfK f (some p) S = match pfOp f p with | some r => .ok (.v r, S) | none => .no := id rfl
@[simp] theorem ev_get : evE C (.get a k) env S = (evE C a env S).bind fun q => if isDct q.1 q.2 = true then (evE C k env q.2).bind fun q2 => getOp q.1 q2.1 (.v .non) q2.2 else .no := by simp only [evE]
@[simp] theorem ev_get2 : evE C (.get2 a k d) env S = (evE C a env S).bind fun q => if isDct q.1 q.2 = true then (evE C k env q.2).bind fun q2 => (evE C d env q2.2).bind fun q3 => getOp q.1 q2.1 q3.1 q3.2 else .no := by simp only [evE]
@[simp] theorem isDct_v {kvs : List (Key × P)} : isDct (.v (.dct kvs)) S = true := id rfl
@[simp] theorem get_v {kvs : List (Key × P)} {x : Str} {w : W} : getOp (.v (.dct kvs)) (.v (.str x)) w S = .ok (((getK kvs (.inr x)).map W.v).getD w, S) := id rfl
end
@[simp] theorem isInt_i {i : Int} : pfOp .isInt (.int i) = some (.bl true) := id rfl
@[simp] theorem isBool_i {i : Int} : pfOp .isBool (.int i) = some (.bl false) := id rfl
@[simp] theorem isRow_l {l : List P} : pfOp .isRow (.lst l) = some (.bl true) := id rfl
@[simp] theorem isRow_t {l : List P} : pfOp .isRow (.tup l) = some (.bl true) := id rfl
@[simp] theorem tuple_l {l : List P} : pfOp .tuple (.lst l) = some (.tup l) := id rfl
@[simp] theorem intB_b {b : Bool} : pfOp .intB (.bl b) = some (.int (if b then 1 else 0)) := id rfl
theorem lenSet_s {xs : List Str} (h : xs.length ≤ 4000) : pfOp .lenSet (.lst (xs.map .str)) = some (.int (onceS xs).length) := by
  simp only [pfOp, strsOf_map, if_pos h]
/-! what a number is -/
def okN : P → Bool
  | .int i => decide (0 ≤ i)
  | _ => false
structure BkP (T : Str → Option Fn) (g : Gm) : Prop extends BkR T g where
  isPaper : T "is_paper" = some (.fn 9 3 [] f_is_paper false)
  isRankPaper : T "is_rank_paper" = some (.fn 7 2 [] f_is_rank_paper false)
  checkedQuestion : T "checked_question" = some (.fn 2 2 [] f_checked_question false)
  questions : T "Book.questions" = some (.fn 5 1 [] f_Book_questions false)
  isRowOf : T "is_row_of" = some (.fn 1 1 [] f_is_row_of false)
  isNumber : T "is_number" = some (.fn 1 1 [] f_is_number false)
  gIsPaper : g.fn "is_paper" = true
  gIsRankPaper : g.fn "is_rank_paper" = true
  gCheckedQuestion : g.fn "checked_question" = true
  gIsRowOf : g.fn "is_row_of" = true
  gIsNumber : g.fn "is_number" = true
  mQuestions : g.met "Book" "questions" = true
section
variable {T : Str → Option Fn} {g : Gm} (b : BkP T g)
include b
theorem is_number_ok {d : Nat} {S : Cells} {p : P} (h : plainTy p = true) : callF T g (d + 1) "is_number" [.v p] S = .ok (.v (.bl (okN p)), S) := by
  refine WX_fun (call_fn b.isNumber rfl ?_)
  cases p with
  | int i => simp [f_is_number, startE, okN]
  | bl i => simp [f_is_number, startE, okN, pfOp, plainTy, isIntP, isBoolP]
  | obj _ _ => cases h
  | scr _ => cases h
  | _ => simp [f_is_number, startE, okN, pfOp, plainTy, isIntP, isBoolP]
theorem is_row_ok {d : Nat} {S : Cells} {p : P} (h : isRowP p = true) : callF T g (d + 1) "is_row_of" [.v p] S = .ok (.v (.bl true), S) := by
  refine WX_fun (call_fn b.isRowOf rfl ?_)
  cases p with
  | lst _ => simp [f_is_row_of, startE]
  | tup _ => simp [f_is_row_of, startE]
  | _ => cases h
end
end LS

set_option Elab.async false
set_option linter.all false
set_option maxRecDepth 100000
set_option maxHeartbeats 1000000
/-! LY2: the questions of a book. -/
namespace LS
open PySem L2
def q3 (c : Col) : List Str := [Str.ofString "loose " ++ c.name, Str.ofString "half " ++ c.name, if fallB c then Str.ofString "unjust " ++ c.name else Str.ofString "spoilt " ++ c.name]
def qC (cs : List Col) : List Str := cs.flatMap q3
def qK (ks : List (Str × Bool)) : List Str := ks.map fun k => Str.ofString "undue " ++ k.1
def qsL (ks : List (Str × Bool)) (cs : List Col) : List Str := qC cs ++ qK ks ++ [Str.ofString "stuck"]
theorem q3_len (cs : List Col) : (qC cs).length = 3 * cs.length := by
  induction cs with
  | nil => rfl
  | cons c cs ih => simp [qC, List.flatMap_cons, q3] at ih ⊢; omega
theorem q3_snoc (cs : List Col) (c : Col) : qC (cs ++ [c]) = qC cs ++ q3 c := by simp [qC]
theorem qK_len (ks : List (Str × Bool)) : (qK ks).length = ks.length := by simp [qK]
section
variable {T : Str → Option Fn} {g : Gm} (b : BkP T g)
include b
theorem questions_ok {d : Nat} {S : Cells} {ks : List (Str × Bool)} {cs : List Col} {ch : List Str} (h : Shape ks cs) (hl : cs.length ≤ 10) (hl2 : ks.length ≤ 10) :
    callF T g (d + 1) "Book.questions" [.v (pBook ks cs ch)] S = .ok (.v (.lst ((qsL ks cs).map .str)), S) := by
  refine WX_fun (call_fn b.questions rfl ?_)
  simp [-List.map_map, f_Book_questions, startE, lim_v, b.fB3]
  rw [WS_seq]
  refine WS_forM cs (fun c => .tup [.str c.name, pCol c]) (fun done env S' => ∃ o2 o3, env = [some (.v (pBook ks cs ch)), some (.c S.length), o2, o3, none] ∧ S' = S ++ [.lst (((qC done).map P.str).map .v)]) (by simp [kC, kP]) ⟨none, none, rfl, rfl⟩ ?_ ?_
  · rintro done c todo env S' hy ⟨o2, o3, rfl, rfl⟩
    refine ⟨_, rfl, ?_⟩
    have hm : c ∈ cs := by rw [hy]; simp
    have hg : c.name.length ≤ 8 := good_len (h.good _ (by simp; exact .inr ⟨c, hm, rfl⟩))
    have hlen2 : done.length ≤ 10 := by
      have := congrArg List.length hy
      simp at this
      omega
    have hle := q3_len done
    simp [-List.map_map, lim_v, b.fC4, b.fall, hle, show 3 * done.length + 2 ≤ 1000000 by omega, show 6 + c.name.length ≤ 1000000 by omega, show 5 + c.name.length ≤ 1000000 by omega, show 7 + c.name.length ≤ 1000000 by omega, show 3 * done.length + 2 < 1000000 by omega, show 3 * done.length + 1 + 1 < 1000000 by omega]
    by_cases hf : c.rule = Str.ofString "fall"
    · simp [-List.map_map, hf, lim_v, hle, show 7 + c.name.length ≤ 1000000 by omega, show 3 * done.length + 2 < 1000000 by omega, q3_snoc, q3, fallB]
    · simp [-List.map_map, hf, lim_v, hle, show 7 + c.name.length ≤ 1000000 by omega, show 3 * done.length + 2 < 1000000 by omega, q3_snoc, q3, fallB]
  · rintro env S' ⟨o2, o3, rfl, rfl⟩
    have hle := q3_len cs
    simp [-List.map_map, lim_v, b.fB1]
    rw [lc_m (S := S ++ [.lst (((qC cs).map P.str).map .v)]) ks (fun k => .str k.1) (fun k => .str (Str.ofString "undue " ++ k.1)) (ps := ks.map fun k => .str k.1) (by simp [b.fB1, kO]) rfl (by rw [lim_v]; omega) (fun y hy R => ⟨_, rfl, by
      have := good_len (h.good y.1 (List.mem_append_left _ (List.mem_map_of_mem hy)))
      simp [-List.map_map, lim_v, show 6 + y.1.length ≤ 1000000 by omega]⟩)]
    have e1 : (ks.map fun k => P.str (Str.ofString "undue " ++ k.1)) = (qK ks).map P.str := by simp [qK]
    have hk := qK_len ks
    rw [e1]
    simp [-List.map_map, lim_v, hle, hk, qsL, show 3 * cs.length + ks.length ≤ 1000000 by omega, show 3 * cs.length + (ks.length + 1) ≤ 1000000 by omega]
end
end LS

set_option Elab.async false
set_option linter.all false
set_option maxRecDepth 100000
set_option maxHeartbeats 1000000
/-! LY3: dicts of pairs, keys perhaps twice. -/
namespace LS
open PySem L2
theorem set_keyW {k : Key} {v : P} {kvs : List (Key × P)} : setK (kvs.map fun z => (z.1, W.v z.2)) k (.v v) = (setK kvs k v).map fun z => (z.1, W.v z.2) := by
  unfold setK
  have e : ((kvs.map fun z => (z.1, W.v z.2)).any fun q => decide (q.1 = k)) = (kvs.any fun q => decide (q.1 = k)) := by
    rw [List.any_map]
    rfl
  rw [e]
  split
  · rw [List.map_map, List.map_map]
    apply List.map_congr_left
    intro z _
    by_cases h : z.1 = k <;> simp [h]
  · simp
theorem any_key {α : Type} {k : Key} {kvs : List (Key × α)} : (kvs.any fun q => decide (q.1 = k)) = true ↔ k ∈ kvs.map (·.1) := by
  rw [List.any_eq_true]
  constructor
  · rintro ⟨q, hq, e⟩
    exact of_decide_eq_true e ▸ List.mem_map_of_mem hq
  · intro h
    obtain ⟨q, hq, e⟩ := List.mem_map.mp h
    exact ⟨q, hq, decide_eq_true e⟩
theorem len_in {α : Type} {k : Key} {v : α} {kvs : List (Key × α)} (h : k ∈ kvs.map (·.1)) : (setK kvs k v).length = kvs.length := by
  unfold setK
  rw [if_pos (any_key.mpr h), List.length_map]
theorem len_setK {α : Type} {k : Key} {v : α} {kvs : List (Key × α)} : (setK kvs k v).length ≤ kvs.length + 1 := by
  unfold setK
  split
  · rw [List.length_map]; omega
  · simp
theorem merge_le : ∀ (kvs acc : List (Key × P)), (mergeP acc kvs).length ≤ acc.length + kvs.length
  | [], acc => Nat.le_refl _
  | q :: kvs, acc => by
    have := merge_le kvs (setK acc q.1 q.2)
    have h2 := len_setK (k := q.1) (v := q.2) (kvs := acc)
    show (mergeP (setK acc q.1 q.2) kvs).length ≤ _
    rw [List.length_cons]
    omega
theorem merge_nd : ∀ (kvs acc : List (Key × P)), ((acc ++ kvs).map (·.1)).Nodup → mergeP acc kvs = acc ++ kvs
  | [], acc, _ => by simp [mergeP]
  | q :: kvs, acc, h => by
    have e : setK acc q.1 q.2 = acc ++ [q] := setK_new fun z hz e => by
      rw [List.map_append, List.nodup_append] at h
      exact h.2.2 z.1 (List.mem_map_of_mem hz) q.1 (by simp) e
    show mergeP (setK acc q.1 q.2) kvs = _
    rw [e, merge_nd kvs (acc ++ [q]) (by simpa using h)]
    simp
theorem merge_lt : ∀ (kvs acc : List (Key × P)), ¬ ((acc ++ kvs).map (·.1)).Nodup → (acc.map (·.1)).Nodup → (mergeP acc kvs).length < acc.length + kvs.length
  | [], acc, h, h2 => absurd (by simpa using h2) h
  | q :: kvs, acc, h, h2 => by
    show (mergeP (setK acc q.1 q.2) kvs).length < _
    by_cases hm : q.1 ∈ acc.map (·.1)
    · have h3 := len_in (v := q.2) hm
      have := merge_le kvs (setK acc q.1 q.2)
      rw [List.length_cons]
      omega
    · have e : setK acc q.1 q.2 = acc ++ [q] := setK_new fun z hz e => hm (e ▸ List.mem_map_of_mem hz)
      rw [e]
      have h3 : ((acc ++ [q]).map (·.1)).Nodup := by
        rw [List.map_append, List.nodup_append]
        exact ⟨h2, by simp, fun x hx y hy => by
          simp at hy
          subst hy
          exact fun z => hm (z ▸ hx)⟩
      have := merge_lt kvs (acc ++ [q]) (by simpa using h) h3
      simp at this ⊢
      omega
theorem once_mem : ∀ {xs : List Str} {x : Str}, x ∈ onceS xs ↔ x ∈ xs := by
  have key : ∀ (xs acc : List Str) (x : Str), x ∈ xs.foldl (fun acc x => if x ∈ acc then acc else acc ++ [x]) acc ↔ x ∈ acc ∨ x ∈ xs := by
    intro xs
    induction xs with
    | nil => intro acc x; simp
    | cons y ys ih =>
      intro acc x
      rw [List.foldl_cons, ih]
      by_cases h : y ∈ acc
      · rw [if_pos h]
        constructor
        · rintro (h1 | h1)
          · exact .inl h1
          · exact .inr (List.mem_cons_of_mem _ h1)
        · rintro (h1 | h1)
          · exact .inl h1
          · rcases List.mem_cons.mp h1 with rfl | h1
            · exact .inl h
            · exact .inr h1
      · rw [if_neg h]
        simp [or_assoc]
  intro xs x
  have := key xs [] x
  simpa [onceS] using this
theorem once_nd {xs : List Str} (h : xs.Nodup) : onceS xs = xs := by
  have key : ∀ (xs acc : List Str), (acc ++ xs).Nodup → xs.foldl (fun acc x => if x ∈ acc then acc else acc ++ [x]) acc = acc ++ xs := by
    intro xs
    induction xs with
    | nil => intro acc _; simp
    | cons y ys ih =>
      intro acc h
      rw [List.foldl_cons, if_neg, ih]
      · simp
      · simpa using h
      · intro hm
        rw [List.nodup_append] at h
        exact h.2.2 y hm y (by simp) rfl
  have := key xs [] (by simpa using h)
  simpa [onceS] using this
theorem once_lt {xs : List Str} (h : ¬ xs.Nodup) : (onceS xs).length < xs.length := by
  have key : ∀ (xs acc : List Str), ¬ (acc ++ xs).Nodup → acc.Nodup → (xs.foldl (fun acc x => if x ∈ acc then acc else acc ++ [x]) acc).length < acc.length + xs.length := by
    intro xs
    induction xs with
    | nil => intro acc h h2; exact absurd (by simpa using h2) h
    | cons y ys ih =>
      intro acc h h2
      rw [List.foldl_cons]
      by_cases hm : y ∈ acc
      · rw [if_pos hm]
        have len : ∀ (zs ac : List Str), (zs.foldl (fun acc x => if x ∈ acc then acc else acc ++ [x]) ac).length ≤ ac.length + zs.length := by
          intro zs
          induction zs with
          | nil => intro ac; exact Nat.le_refl _
          | cons z zs ih2 =>
            intro ac
            rw [List.foldl_cons]
            refine Nat.le_trans (ih2 _) ?_
            split <;> simp <;> omega
        have := len ys acc
        rw [List.length_cons]
        omega
      · rw [if_neg hm]
        have h3 : (acc ++ [y]).Nodup := by
          rw [List.nodup_append]
          exact ⟨h2, by simp, fun x hx z hz => by
            simp at hz
            subst hz
            exact fun e => hm (e ▸ hx)⟩
        have := ih (acc ++ [y]) (by simpa using h) h3
        simp at this ⊢
        omega
  have := key xs [] (by simpa using h) (by simp)
  simpa [onceS] using this
theorem dc_any {C : Cn} {env : Env} {own : List (Str × Nat)} {tg : Tg} {it k v : E} {S0 : Cells} {α : Type} {ps : List P} {S : Cells} (ys : List α) (q : α → P) (f : α → Key × P) (hi : evI C it env S0 = .ok (.st (ps.map .v), S)) (hp : ps = ys.map q) (hz : ys.length ≤ lim)
    (step : ∀ y ∈ ys, ∀ R, ∃ e0, setTg tg (.v (q y)) (wipeE env (own.map (·.2))) = some e0 ∧ evE C k e0 (S ++ [R]) = .ok (.v (kP (f y).1), S ++ [R]) ∧ evE C v e0 (S ++ [R]) = .ok (.v (f y).2, S ++ [R])) :
    evE C (.dc false own tg it .nil k v) env S0 = .ok (.v (.dct (mergeP [] (ys.map f))), S) := by
  have hkk : ∀ k : Key, keyOf (kP k) = some k := fun k => by cases k <;> rfl
  have lp : ∀ (todo done : List α), ys = done ++ todo →
      loopL (dcTurn C env own tg .nil k v S.length) (todo.map fun y => .v (q y)) (S ++ [.dct ((mergeP [] (done.map f)).map fun z => (z.1, W.v z.2))]) = .ok (S ++ [.dct ((mergeP [] (ys.map f)).map fun z => (z.1, W.v z.2))]) := by
    intro todo
    induction todo with
    | nil =>
      intro done h
      rw [List.append_nil] at h
      subst h
      rfl
    | cons y todo ih =>
      intro done h
      have hlen : (mergeP [] (done.map f)).length < lim := by
        have h1 := congrArg List.length h
        have h2 := merge_le (done.map f) []
        simp at h1 h2
        omega
      obtain ⟨e0, h1, h4, h5⟩ := step y (by rw [h]; simp) (.dct ((mergeP [] (done.map f)).map fun z => (z.1, W.v z.2)))
      have hs : mergeP [] ((done ++ [y]).map f) = setK (mergeP [] (done.map f)) (f y).1 (f y).2 := by
        rw [List.map_append]
        unfold mergeP
        rw [List.foldl_append]
        rfl
      have hlow : Cell.lows S.length (.dct ((mergeP [] ((done ++ [y]).map f)).map fun z => (z.1, W.v z.2))) = true := by
        show List.all _ _ = true
        rw [List.all_map]
        exact List.all_eq_true.mpr fun _ _ => rfl
      have ht : dcTurn C env own tg .nil k v S.length (.v (q y)) (S ++ [.dct ((mergeP [] (done.map f)).map fun z => (z.1, W.v z.2))]) = .ok (S ++ [.dct ((mergeP [] ((done ++ [y]).map f)).map fun z => (z.1, W.v z.2))]) := by
        unfold dcTurn
        rw [h1]
        simp only [vif_nil, b_ok, if_pos, h4, h5, hkk]
        unfold putC
        simp only [ap_at, List.getElem?_cons_zero, List.length_map, if_pos hlen, set_keyW, ← hs]
        rw [wr_eq, if_pos hlow]
        simp
      simp only [List.map_cons, loopL, ht, b_ok]
      exact ih (done ++ [y]) (by simp [h])
  have := lp ys [] rfl
  simp only [evE, hi, b_ok, loopI]
  show (loopL (dcTurn C env own tg .nil k v S.length) (ps.map .v) (S ++ [.dct []])).bind _ = _
  rw [hp, List.map_map]
  rw [show (W.v ∘ q) = fun y => W.v (q y) from rfl]
  have e0 : (Cell.dct []) = Cell.dct ((mergeP [] (([] : List α).map f)).map fun z => (z.1, W.v z.2)) := rfl
  rw [e0, this]
  have hall : allKP ((mergeP [] (ys.map f)).map fun z => (z.1, W.v z.2)) = some (mergeP [] (ys.map f)) := by
    have := allKP_map (ys := mergeP [] (ys.map f)) (f := fun z => z)
    simpa using this
  simp [finC, Cell.view, hall]
end LS

set_option Elab.async false
set_option linter.all false
set_option maxRecDepth 100000
set_option maxHeartbeats 1000000
/-! LY4: rank papers, by the program. -/
namespace LS
open PySem L2
structure Ent where
  k : Str
  n : P
  isL : Bool
def pE (e : Ent) : P := if e.isL = true then .lst [.str e.k, e.n] else .tup [.str e.k, e.n]
def kE (e : Ent) : Key × P := (.inr e.k, e.n)
def numE : P → Int
  | .int i => i
  | _ => 0
def valE (es : List Ent) (x : Str) : Int := numE ((getK (es.map kE) (.inr x)).getD .non)
theorem tg_pE {i j : Nat} {e : Ent} {env : Env} : setTg (.tup [i, j]) (.v (pE e)) env = some ((env.set i (some (.v (.str e.k)))).set j (some (.v e.n))) := by
  unfold pE
  cases e.isL <;> rfl
theorem row_pE (e : Ent) : isRowP (pE e) = true := by
  unfold pE
  cases e.isL <;> rfl
theorem len_pE {e : Ent} : bfOp .len [pE e] = some (.int 2) := by
  unfold pE
  cases e.isL <;> rfl
theorem at0_pE {e : Ent} : ixP (pE e) (.int 0) = some (.str e.k) := by
  unfold pE
  cases e.isL <;> rfl
theorem at1_pE {e : Ent} : ixP (pE e) (.int 1) = some e.n := by
  unfold pE
  cases e.isL <;> rfl
theorem keys_kE (es : List Ent) : (es.map kE).map (·.1) = (es.map (·.k)).map fun x => (Sum.inr x : Key) := by
  simp [kE]
theorem nd_kE {es : List Ent} : ((es.map kE).map (·.1)).Nodup ↔ (es.map (·.k)).Nodup := by
  rw [keys_kE]
  constructor
  · intro h
    exact List.Pairwise.of_map _ (fun a b h e => h (e ▸ rfl)) h
  · intro h
    exact List.Pairwise.map _ (fun a b h e => h (Sum.inr.inj e)) h
theorem get_kE {x : Str} : ∀ {es : List Ent}, x ∈ es.map (·.k) → ∃ e ∈ es, getK (es.map kE) (.inr x) = some e.n
  | [], h => by cases h
  | e :: es, h => by
    rw [List.map_cons, kE, gk_cons]
    by_cases he : e.k = x
    · exact ⟨e, by simp, by simp [he]⟩
    · rw [if_neg (fun z => he (Sum.inr.inj z))]
      rw [List.map_cons] at h
      rcases List.mem_cons.mp h with z | h
      · exact absurd z.symm he
      · obtain ⟨e', h1, h2⟩ := get_kE h
        exact ⟨e', List.mem_cons_of_mem _ h1, h2⟩
theorem in_kE {x : Str} {es : List Ent} : inP (.str x) (.dct (es.map kE)) = some (decide (x ∈ es.map (·.k))) := by
  simp only [inP, keyOf, Option.map_some]
  congr 1
  by_cases h : x ∈ es.map (·.k)
  · obtain ⟨e, _, h2⟩ := get_kE h
    rw [h2, decide_eq_true h]
    rfl
  · rw [decide_eq_false h]
    cases hg : getK (es.map kE) (.inr x) with
    | none => rfl
    | some p =>
      unfold getK at hg
      cases hf : (es.map kE).find? fun q => decide (q.1 = .inr x) with
      | none => rw [hf] at hg; cases hg
      | some q =>
        have h1 := List.mem_of_find?_eq_some hf
        have h2 : q.1 = Sum.inr x := of_decide_eq_true (by simpa using List.find?_some hf)
        obtain ⟨e, he, rfl⟩ := List.mem_map.mp h1
        exact absurd (List.mem_map.mpr ⟨e, he, Sum.inr.inj h2⟩) h
theorem ix_kE {x : Str} {es : List Ent} (h : x ∈ es.map (·.k)) (ho : ∀ e ∈ es, okN e.n = true) : ixP (.dct (es.map kE)) (.str x) = some (.int (valE es x)) := by
  obtain ⟨e, he, h2⟩ := get_kE h
  have := ho e he
  show ((keyOf (.str x)).bind fun k => getK (es.map kE) k) = _
  show getK (es.map kE) (.inr x) = _
  unfold valE
  rw [h2]
  revert this
  cases e.n with
  | int i => intro _; rfl
  | _ => intro h; cases h
/-- what a rank paper must be -/
def goodE (ks : List (Str × Bool)) (es : List Ent) : Bool := es.all fun e => decide (e.k ∈ ks.map (·.1)) && okN e.n
def restE (ks : List (Str × Bool)) (cs : List Col) (ch : List Str) (es : List Ent) : Bool := ((tightL ks cs ch).all fun k => decide (k ∈ es.map (·.k))) && (tightC ks cs ch).all fun c => decide (valE es c.goal < valE es c.home)
def paperB (ks : List (Str × Bool)) (cs : List Col) (ch : List Str) (es : List Ent) : Bool := goodE ks es && (decide ((es.map (·.k)).Nodup) && restE ks cs ch es)
theorem tightC_in {ks : List (Str × Bool)} {cs : List Col} {ch : List Str} {c : Col} (h : c ∈ tightC ks cs ch) : c.home ∈ tightL ks cs ch ∧ c.goal ∈ tightL ks cs ch := tie_in (tie_of h)
theorem tightC_len (ks : List (Str × Bool)) (cs : List Col) (ch : List Str) : (tightC ks cs ch).length ≤ cs.length := by
  unfold tightC
  exact Nat.le_trans (List.length_filter_le _ _) (List.length_filter_le _ _)
section
variable {T : Str → Option Fn} {g : Gm} (b : BkP T g)
include b
theorem rank_paper_ok {d : Nat} {S : Cells} {ks : List (Str × Bool)} {cs : List Col} {ch : List Str} {es : List Ent} {p : P} (hp : isRowP p = true) (hi : ∀ S, itemsOf (.v p) S = .ok (.st ((es.map pE).map .v))) (hlen : bfOp .len [p] = some (.int es.length)) (h : Shape ks cs) (hl : cs.length ≤ 10) (hl2 : ks.length ≤ 10) (hfu : 100 < g.fu)
    (hn : ∀ e ∈ es, plainTy e.n = true) (hz : es.length ≤ 1000) : callF T g (d + 6) "is_rank_paper" [.v (pBook ks cs ch), .v p] S = .ok (.v (.bl (paperB ks cs ch es)), S) := by
  refine WX_fun (call_fn b.isRankPaper rfl ?_)
  have hrow := fun S => is_row_ok b (d := d + 4) (S := S) hp
  simp [-List.map_map, f_is_rank_paper, startE, b.gIsRowOf, hrow]
  rw [lc_m (S := S) (ps := es.map pE) es pE (fun _ => .bl true) (by simp [-List.map_map, hi]) rfl (by rw [lim_v]; omega) (fun y hy R => ⟨_, rfl, by
    have := fun S => is_row_ok b (d := d + 4) (S := S) (row_pE y)
    simp [b.gIsRowOf, this, len_pE]⟩)]
  have e1 : (es.all fun _ => true) = true := by simp
  simp [-List.map_map, e1]
  rw [lc_m (S := S) (ps := es.map pE) es pE (fun e => .bl (decide (e.k ∈ ks.map (·.1)) && okN e.n)) (by simp [-List.map_map, hi]) rfl (by rw [lim_v]; omega) (fun y hy R => ⟨_, tg_pE, by
    have h1 := fun S => stands_in_ok b.toBkA (d := d + 4) (S := S) (x := y.k) (p := .dct (ks.map kO)) in_k
    have h2 := fun S => is_number_ok b (d := d + 4) (S := S) (hn y hy)
    by_cases hk : y.k ∈ ks.map (·.1)
    · simp [-List.mem_map, b.gStandsIn, b.fB1, h1, hk, b.gIsNumber, h2]
    · simp [-List.mem_map, b.gStandsIn, b.fB1, h1, hk]⟩)]
  by_cases hg : goodE ks es = true
  · have hg' : (es.all fun e => decide (e.k ∈ ks.map (·.1)) && okN e.n) = true := hg
    have hok : ∀ e ∈ es, okN e.n = true := fun e he => by
      have := List.all_eq_true.mp hg' e he
      simp only [Bool.and_eq_true] at this
      exact this.2
    simp only [b_ok, bfK_1, all_map, hg']
    simp [-List.map_map]
    rw [dc_any (S := S) (ps := es.map pE) es pE kE (by simp [-List.map_map, hi]) rfl (by rw [lim_v]; omega) (fun y hy R => ⟨_, tg_pE, by simp [kE], by simp [kE]⟩)]
    simp [-List.map_map, hlen]
    have ht := fun S => tight_kinds_ok b.toBkR (d := d + 2) (S := S) (ch := ch) h hl hl2 hfu
    have htc := fun S => tight_columns_ok b.toBkR (d := d + 1) (S := S) (ch := ch) h hl hl2 hfu
    have hNl := tight_len ks cs ch
    have hCl := tightC_len ks cs ch
    by_cases hnd : (es.map (·.k)).Nodup
    · have hm : mergeP [] (es.map kE) = es.map kE := by
        have := merge_nd (es.map kE) [] (by simpa using nd_kE.mpr hnd)
        simpa using this
      rw [hm]
      simp [-List.map_map]
      rw [lc_m (S := S) (ps := (tightL ks cs ch).map .str) (tightL ks cs ch) .str (fun k => .bl (decide (k ∈ es.map (·.k)))) (by simp [-List.map_map, b.gTightKinds, ht]) rfl (by rw [lim_v]; omega) (fun y hy R => ⟨_, rfl, by simp [-List.map_map, -List.mem_map, in_kE]⟩)]
      simp only [b_ok, bfK_1, all_map]
      by_cases ha : ((tightL ks cs ch).all fun k => decide (k ∈ es.map (·.k))) = true
      · have ha' : ∀ k ∈ tightL ks cs ch, k ∈ es.map (·.k) := fun k hk => of_decide_eq_true (List.all_eq_true.mp ha k hk)
        simp only [ha]
        simp [-List.map_map]
        rw [lc_m (S := S) (ps := (tightC ks cs ch).map pCol) (tightC ks cs ch) pCol (fun c => .bl (decide (valE es c.goal < valE es c.home))) (by simp [-List.map_map, b.gTightColumns, htc]) rfl (by rw [lim_v]; omega) (fun y hy R => ⟨_, rfl, by
          have h1 := ix_kE (ha' _ (tightC_in hy).1) hok
          have h2 := ix_kE (ha' _ (tightC_in hy).2) hok
          simp [-List.map_map, b.fC2, b.fC3, h1, h2]⟩)]
        have hpb : paperB ks cs ch es = (tightC ks cs ch).all fun c => decide (valE es c.goal < valE es c.home) := by
          unfold paperB restE
          rw [hg, ha, decide_eq_true hnd]
          rfl
        rw [hpb]
        simp
      · have ha2 : ((tightL ks cs ch).all fun k => decide (k ∈ es.map (·.k))) = false := by simpa using ha
        have hpb : paperB ks cs ch es = false := by
          unfold paperB restE
          rw [ha2]
          simp
        simp only [ha2]
        rw [hpb]
        simp
    · have hlt := merge_lt (es.map kE) [] (by simpa using fun z => hnd (nd_kE.mp z)) (by simp)
      simp at hlt
      have hpb : paperB ks cs ch es = false := by simp [paperB, hnd]
      rw [hpb]
      simp [hlt, Nat.not_le.mpr hlt]
  · have hg' : (es.all fun e => decide (e.k ∈ ks.map (·.1)) && okN e.n) = false := by simpa [goodE] using hg
    simp only [b_ok, bfK_1, all_map, hg']
    have hpb : paperB ks cs ch es = false := by
      unfold paperB
      rw [show goodE ks es = false by simpa using hg]
      rfl
    rw [hpb]
    simp
end
end LS

set_option Elab.async false
set_option linter.all false
set_option maxRecDepth 100000
set_option maxHeartbeats 1000000
/-! LY5: is_paper of stuck; the law's own look. -/
namespace LS
open PySem L2
section
variable {T : Str → Option Fn} {g : Gm} (b : BkP T g)
include b
theorem paper_ok {d : Nat} {S : Cells} {ks : List (Str × Bool)} {cs : List Col} {ch : List Str} {es : List Ent} {p : P} (hp : isRowP p = true) (hi : ∀ S, itemsOf (.v p) S = .ok (.st ((es.map pE).map .v))) (hlen : bfOp .len [p] = some (.int es.length)) (h : Shape ks cs) (hl : cs.length ≤ 10) (hl2 : ks.length ≤ 10) (hfu : 100 < g.fu)
    (hn : ∀ e ∈ es, plainTy e.n = true) (hz : es.length ≤ 1000) : callF T g (d + 7) "is_paper" [.v (pBook ks cs ch), .v (.str "stuck"), .v p] S = .ok (.v (.bl (paperB ks cs ch es)), S) := by
  have hq := fun S => questions_ok b (d := d + 4) (S := S) (ch := ch) h hl hl2
  have hcq : ∀ S, callF T g (d + 6) "checked_question" [.v (pBook ks cs ch), .v (.str "stuck")] S = .ok (.v (.str "stuck"), S) := fun S => by
    refine WX_fun (call_fn b.checkedQuestion rfl ?_)
    have h1 := fun S => stands_in_ok b.toBkA (d := d + 4) (S := S) (x := Str.ofString "stuck") (p := .lst ((qsL ks cs).map .str)) (r := true) (by rw [in_strs]; simp [qsL])
    simp [-List.map_map, f_checked_question, startE, b.gStandsIn, b.mQuestions, hq, h1]
  have hr := fun S => rank_paper_ok b (d := d) (S := S) (ks := ks) (cs := cs) (ch := ch) hp hi hlen h hl hl2 hfu hn hz
  refine WX_fun (call_fn b.isPaper rfl ?_)
  simp [f_is_paper, startE, b.gCheckedQuestion, hcq, b.gIsRankPaper, hr]
end
theorem pairs_k : ∀ (ks : List (Str × Bool)), pairsOf (ks.map pK) = some (ks.map kO)
  | [] => rfl
  | k :: ks => by simp [pK, pairsOf, keyOf, pairs_k ks, kO]
theorem dict_k {ks : List (Str × Bool)} (h : (ks.map (·.1)).Nodup) : bfOp .dict [.lst (ks.map pK)] = some (.dct (ks.map kO)) := by
  simp only [bfOp, pairs_k, Option.map_some]
  rw [merge_nd (ks.map kO) []]
  · simp
  · rw [List.nil_append, List.map_map]
    exact nodup_inr h
theorem pairs_e : ∀ (es : List Ent), pairsOf (es.map fun e => .tup [.str e.k, e.n]) = some (es.map kE)
  | [] => rfl
  | e :: es => by simp [pairsOf, keyOf, pairs_e es, kE]
theorem dict_e {es : List Ent} (h : (es.map (·.k)).Nodup) : bfOp .dict [.lst (es.map fun e => .tup [.str e.k, e.n])] = some (.dct (es.map kE)) := by
  simp only [bfOp, pairs_e, Option.map_some]
  rw [merge_nd (es.map kE) [] (by simpa using nd_kE.mpr h)]
  simp
def ksE (es : List Ent) : List Str := es.map (·.k)
structure LwP (T : Str → Option Fn) (g : Gm) : Prop extends LwR T g where
  falls : T "_law_falls" = some (.fn 8 2 [] f__law_falls false)
  gFalls : g.fn "_law_falls" = true
  pairs : T "_law_pairs" = some (.fn 9 2 [] f__law_pairs false)
  gPairs : g.fn "_law_pairs" = true
  mixed : T "_law_mixed" = some (.fn 4 2 [] f__law_mixed false)
  gMixed : g.fn "_law_mixed" = true
  ranks : T "_law_ranks" = some (.fn 9 1 [] f__law_ranks false)
  gRanks : g.fn "_law_ranks" = true
theorem filt_nil {α : Type} {p : α → Bool} {xs : List α} {f : α → P} : ((xs.filter p).map f).isEmpty = xs.all fun x => !p x := by
  induction xs with
  | nil => rfl
  | cons x xs ih =>
    rw [List.filter_cons, List.all_cons]
    cases p x <;> simp [ih]
section
variable {T : Str → Option Fn} {g : Gm} (b : LwP T g)
include b
theorem falls_ok {d : Nat} {S : Cells} {w : W} {ks : List (Str × Bool)} {cs : List Col} {ch : List Str} {es : List Ent} (hw : BAt w S ks cs ch) (h : Shape ks cs) (hl : cs.length ≤ 10) (hl2 : ks.length ≤ 10) (hn : ∀ e ∈ es, plainTy e.n = true) (hgd : ∀ e ∈ es, good e.k) (hz : es.length ≤ 1000) :
    callF T g (d + 4) "_law_falls" [w, .v (.lst (es.map pE))] S = .ok (.v (.bl (paperB ks cs ch es)), S) := by
  refine WX_fun (call_fn b.falls rfl ?_)
  have hnk : (ks.map (·.1)).Nodup := (List.nodup_append.mp h.nd).1
  simp [-List.map_map, f__law_falls, startE]
  rw [lc_m (S := S) (ps := es.map pE) es pE (fun e => .str e.k) (by simp [-List.map_map]) rfl (by rw [lim_v]; omega) (fun y hy R => ⟨_, rfl, by simp [at0_pE]⟩)]
  have e1 : (es.map fun e => P.str e.k) = (ksE es).map P.str := by simp [ksE]
  have hkl : (ksE es).length = es.length := by simp [ksE]
  have hls := lenSet_s (xs := ksE es) (by omega)
  have hkg : ∀ x ∈ ksE es, good x := fun x hx => by
    obtain ⟨e, he, rfl⟩ := List.mem_map.mp hx
    exact hgd e he
  rw [e1]
  simp [-List.map_map, hls, hkl]
  by_cases hnd : (ksE es).Nodup
  · rw [once_nd hnd]
    simp [-List.map_map, hkl]
    rw [lc_p (S := S) (ps := (ksE es).map .str) (ksE es) .str (fun x => !decide (x ∈ ks.map (·.1))) .str (by simp [-List.map_map]) rfl (by rw [lim_v]; omega) (fun y hy R => ⟨_, rfl, by
      have := hw.kinds [R]
      simp [-List.map_map, -List.mem_map, this, dict_k hnk], by simp⟩)]
    have r1 := ro_goods (xs := (ksE es).filter fun x => !decide (x ∈ ks.map (·.1))) fun x hx => hkg x (List.mem_filter.mp hx).1
    simp only [b_ok, ne_nilR r1 (by decide), filt_nil, Bool.not_not]
    by_cases hin : ((ksE es).all fun x => decide (x ∈ ks.map (·.1))) = true
    · simp only [hin]
      simp [-List.map_map]
      rw [WS_seq]
      by_cases hok : (es.all fun e => okN e.n) = true
      · have hok' : ∀ e ∈ es, okN e.n = true := fun e he => List.all_eq_true.mp hok e he
        have hg : goodE ks es = true := by
          unfold goodE
          rw [List.all_eq_true]
          intro e he
          rw [hok' e he, Bool.and_true]
          exact List.all_eq_true.mp hin e.k (List.mem_map_of_mem he)
        refine WS_forM es pE (fun done env S' => ∃ o4 o5, env = [some w, some (.v (.lst (es.map pE))), some (.v (.lst ((ksE es).map P.str))), none, o4, o5, none, none] ∧ S' = S) rfl ⟨none, none, rfl, rfl⟩ ?_ ?_
        · rintro done y todo env S' hy ⟨o4, o5, rfl, rfl⟩
          refine ⟨_, tg_pE, ?_⟩
          have hm : y ∈ es := by rw [hy]; simp
          have := hok' y hm
          revert this
          cases hyn : y.n with
          | int i =>
            intro h0
            have h0 : 0 ≤ i := of_decide_eq_true h0
            simp [-List.map_map, show ¬ i < 0 by omega]
          | _ => intro z; cases z
        · rintro env S' ⟨o4, o5, rfl, rfl⟩
          have ht := ltight_ok b.toLwR (d := d + 1) hw h hl hl2
          have hti := lties_ok b.toLwR (d := d) hw h hl hl2
          have hNl := tight_len ks cs ch
          have hNg : ∀ k ∈ tightL ks cs ch, good k := fun k hk => h.good k (List.mem_append_left _ (tight_mem hk))
          simp [-List.map_map]
          rw [lc_p (S := S') (ps := (tightL ks cs ch).map .str) (tightL ks cs ch) .str (fun x => !decide (x ∈ ksE es)) .str (by simp [-List.map_map, b.gTight, ht]) rfl (by rw [lim_v]; omega) (fun y hy R => ⟨_, rfl, by simp [-List.map_map], by simp⟩)]
          have r2 := ro_goods (xs := (tightL ks cs ch).filter fun x => !decide (x ∈ ksE es)) fun x hx => hNg x (List.mem_filter.mp hx).1
          simp only [b_ok, ne_nilR r2 (by decide), filt_nil, Bool.not_not]
          by_cases ha : ((tightL ks cs ch).all fun k => decide (k ∈ ksE es)) = true
          · have ha' : ∀ k ∈ tightL ks cs ch, k ∈ ksE es := fun k hk => of_decide_eq_true (List.all_eq_true.mp ha k hk)
            simp only [ha]
            simp [-List.map_map]
            rw [lc_m (S := S') (ps := es.map pE) es pE (fun e => .tup [.str e.k, e.n]) (by simp [-List.map_map]) rfl (by rw [lim_v]; omega) (fun y hy R => ⟨_, rfl, by simp [at0_pE, at1_pE, lim_v]⟩)]
            simp [-List.map_map, dict_e hnd]
            have hTl : (tieL ks cs ch).length ≤ cs.length := by
              have := tightC_len ks cs ch
              simpa [tieL] using this
            rw [lc_p (S := S') (ps := (tieL ks cs ch).map pT) (tieL ks cs ch) pT (fun e => decide (valE es e.1 ≤ valE es e.2)) pT (by simp [-List.map_map, b.gTies, hti]) rfl (by rw [lim_v]; omega) (fun y hy R => ⟨_, rfl, by
              have h1 := ix_kE (ha' _ (tie_in hy).1) hok'
              have h2 := ix_kE (ha' _ (tie_in hy).2) hok'
              simp [-List.map_map, pT, ixP, atI, ixN]
              simp [ixP] at h1 h2
              simp [h1, h2], by simp⟩)]
            have r3 := ro_lst (n := 1) (w := 18) (ps := ((tieL ks cs ch).filter fun e => decide (valE es e.1 ≤ valE es e.2)).map pT) fun p hp => by
              obtain ⟨e, he, rfl⟩ := List.mem_map.mp hp
              have := tie_in (List.mem_filter.mp he).1
              exact ro_pT (hNg _ this.1) (hNg _ this.2)
            simp only [b_ok, eq_nilC r3 (by decide), filt_nil]
            have hpb : paperB ks cs ch es = (tieL ks cs ch).all fun e => !decide (valE es e.1 ≤ valE es e.2) := by
              unfold paperB restE tieL
              rw [hg, show ((tightL ks cs ch).all fun k => decide (k ∈ es.map (·.k))) = true from ha, decide_eq_true (show (es.map (·.k)).Nodup from hnd), List.all_map]
              simp only [Bool.true_and]
              congr 1
              funext c
              rw [Bool.eq_iff_iff]
              simp
            rw [hpb]
            simp
          · have ha2 : ((tightL ks cs ch).all fun k => decide (k ∈ ksE es)) = false := by simpa using ha
            have hpb : paperB ks cs ch es = false := by
              unfold paperB restE
              rw [show ((tightL ks cs ch).all fun k => decide (k ∈ es.map (·.k))) = false from ha2]
              simp
            simp only [ha2]
            rw [hpb]
            simp
      · have hpb : paperB ks cs ch es = false := by
          have : goodE ks es = false := by
            cases hgg : goodE ks es with
            | false => rfl
            | true =>
              refine absurd ?_ hok
              rw [List.all_eq_true]
              intro e he
              have := List.all_eq_true.mp hgg e he
              simp only [Bool.and_eq_true] at this
              exact this.2
          unfold paperB
          rw [this]
          rfl
        rw [hpb]
        refine WS_forM es pE (fun done env S' => (∃ o4 o5, env = [some w, some (.v (.lst (es.map pE))), some (.v (.lst ((ksE es).map P.str))), none, o4, o5, none, none] ∧ S' = S) ∧ ∀ e ∈ done, okN e.n = true) rfl ⟨⟨none, none, rfl, rfl⟩, fun _ z => by cases z⟩ ?_ ?_
        · rintro done y todo env S' hy ⟨⟨o4, o5, rfl, rfl⟩, hd⟩
          refine ⟨_, tg_pE, ?_⟩
          have hm : y ∈ es := by rw [hy]; simp
          have hpl := hn y hm
          have ext : okN y.n = true → ∀ e ∈ done ++ [y], okN e.n = true := fun h0 e he => by
            rcases List.mem_append.mp he with he | he
            · exact hd e he
            · simp at he
              rw [he]
              exact h0
          revert ext hpl
          cases hyn : y.n with
          | int i =>
            intro _ ext
            by_cases h0 : 0 ≤ i
            · simp [-List.map_map, show ¬ i < 0 by omega]
              intro e he
              exact ext (decide_eq_true h0) e (by simpa using he)
            · simp [-List.map_map, show i < 0 by omega]
          | obj _ _ => intro z; cases z
          | scr _ => intro z; cases z
          | _ => intro _ _; simp [-List.map_map, pfOp, plainTy, isIntP, isBoolP]
        · rintro env S' ⟨_, hd⟩
          exact absurd (List.all_eq_true.mpr hd) hok
    · have hin2 : ((ksE es).all fun x => decide (x ∈ ks.map (·.1))) = false := by simpa using hin
      have hpb : paperB ks cs ch es = false := by
        have : goodE ks es = false := by
          cases hgg : goodE ks es with
          | false => rfl
          | true =>
            refine absurd ?_ hin
            rw [List.all_eq_true]
            intro x hx
            obtain ⟨e, he, rfl⟩ := List.mem_map.mp hx
            have := List.all_eq_true.mp hgg e he
            simp only [Bool.and_eq_true] at this
            exact this.1
        unfold paperB
        rw [this]
        rfl
      simp only [hin2]
      rw [hpb]
      simp
  · have := once_lt hnd
    have hpb : paperB ks cs ch es = false := by
      unfold paperB
      rw [decide_eq_false (show ¬ (es.map (·.k)).Nodup from hnd)]
      simp
    rw [hkl] at this
    rw [hpb]
    simp [Nat.not_le.mpr this, this]
end
end LS

set_option Elab.async false
set_option linter.all false
set_option maxRecDepth 100000
set_option maxHeartbeats 1000000
/-! LY6: a comprehension over a cell, with a state; things mixed. -/
namespace LS
open PySem L2
theorem WX_lcC {C : Cn} {env : Env} {own : List (Str × Nat)} {tg : Tg} {it elt : E} {rest S0 : Cells} {Q : W × Cells → Prop} {E0 : XQ} {n : Nat} {ps : List P} {s : Sm} (Inv : List P → List P → Sm → Prop) (hi : evI C it env S0 = .ok (.cl n, s.cells rest)) (hn : ∀ s : Sm, (s.cells rest)[n]? = some (.lst (ps.map .v))) (hfu : ps.length < C.g.fu) (hz : ps.length ≤ lim)
    (h0 : Inv ps [] s)
    (step : ∀ x xs acc s, x ∈ ps → Inv (x :: xs) acc s → ∃ e0, setTg tg (.v x) (wipeE env (own.map (·.2))) = some e0 ∧
      WX (evE C elt e0 (s.cells (rest ++ [.lst (acc.map W.v)]))) (fun z => ∃ p s2, z = (.v p, s2.cells (rest ++ [.lst (acc.map W.v)])) ∧ Inv xs (acc ++ [p]) s2) fun _ _ _ => False)
    (fin : ∀ qs s, Inv [] qs s → Q (.v (.lst qs), s.cells rest)) : WX (evE C (.lc false own tg it .nil elt) env S0) Q E0 := by
  have hD : ∀ s' : Sm, (s'.cells rest).length = (s.cells rest).length := fun s' => by simp [Sm.cells]
  have lp : ∀ (todo done acc : List P) (s0 : Sm) (fu : Nat), ps = done ++ todo → todo.length < fu → acc.length = done.length → Inv todo acc s0 →
      ∃ qs s', loopC (lcTurn C env own tg .nil elt (s.cells rest).length) n fu done.length (s0.cells rest ++ [.lst (acc.map W.v)]) = .ok (s'.cells rest ++ [.lst (qs.map W.v)]) ∧ Inv [] qs s' := by
    intro todo
    induction todo with
    | nil =>
      intro done acc s0 fu h hf hl hI
      rw [List.append_nil] at h
      cases fu with
      | zero => omega
      | succ fu =>
        refine ⟨acc, s0, ?_, hI⟩
        have hlt : n < (s0.cells rest).length := (List.getElem?_eq_some_iff.mp (hn s0)).1
        unfold loopC
        rw [List.getElem?_append_left hlt, hn]
        simp [h]
    | cons y todo ih =>
      intro done acc s0 fu h hf hl hI
      cases fu with
      | zero => omega
      | succ fu =>
        have hlt : n < (s0.cells rest).length := (List.getElem?_eq_some_iff.mp (hn s0)).1
        have hm : y ∈ ps := by rw [h]; simp
        obtain ⟨e0, h1, h2⟩ := step y todo acc s0 hm hI
        obtain ⟨z, h3, p, s2, rfl, h4⟩ := WX_eq h2
        have hal : acc.length < lim := by
          have := congrArg List.length h
          simp at this
          omega
        have ht : lcTurn C env own tg .nil elt (s.cells rest).length (.v y) (s0.cells rest ++ [.lst (acc.map W.v)]) = .ok (s2.cells rest ++ [.lst ((acc ++ [p]).map W.v)]) := by
          unfold lcTurn
          rw [h1]
          have h3' : evE C elt e0 (s0.cells rest ++ [.lst (acc.map W.v)]) = .ok (.v p, s2.cells rest ++ [.lst (acc.map W.v)]) := h3
          simp only [vif_nil, b_ok, if_pos, h3']
          rw [← hD s2]
          exact push_last (s2.cells rest) acc p hal
        obtain ⟨qs, s', h5, h6⟩ := ih (done ++ [y]) (acc ++ [p]) s2 fu (by simp [h]) (by simp only [List.length_cons] at hf; omega) (by simp [hl]) h4
        refine ⟨qs, s', ?_, h6⟩
        unfold loopC
        rw [List.getElem?_append_left hlt, hn]
        have hat : (ps.map W.v)[done.length]? = some (.v y) := by rw [h]; simp
        simp only [hat]
        rw [ht]
        simp only [b_ok]
        have e : (done ++ [y]).length = done.length + 1 := by simp
        rw [e] at h5
        exact h5
  obtain ⟨qs, s', h1, h2⟩ := lp ps [] [] s C.g.fu rfl hfu rfl h0
  have : evE C (.lc false own tg it .nil elt) env S0 = .ok (.v (.lst qs), s'.cells rest) := by
    simp only [evE, hi, b_ok, loopI]
    show (loopC (lcTurn C env own tg .nil elt (s.cells rest).length) n C.g.fu 0 (s.cells rest ++ [.lst []])).bind _ = _
    have h1' : loopC (lcTurn C env own tg .nil elt (s.cells rest).length) n C.g.fu 0 (s.cells rest ++ [.lst []]) = .ok (s'.cells rest ++ [.lst (qs.map W.v)]) := h1
    rw [h1']
    simp only [b_ok]
    rw [← hD s']
    exact fin_lst _ _
  rw [this]
  exact fin qs s' h2
def famM (rest : Cells) : Fam (Sm × List P) := ⟨fun z r => z.1.cells (rest ++ .lst (z.2.map W.v) :: r), fun z r c => by simp [Sm.cells], fun z z' r => by simp [Sm.cells]⟩
theorem at_cells {s : Sm} {rest r : Cells} {c : Cell} : (s.cells (rest ++ c :: r))[rest.length + 2]? = some c := by simp [Sm.cells]
theorem set_cells {s : Sm} {rest r : Cells} {c c' : Cell} : (s.cells (rest ++ c :: r)).set (rest.length + 2) c' = s.cells (rest ++ c' :: r) := by simp [Sm.cells, List.set_append]
theorem erase_map : ∀ (l : List P) (i : Nat), (l.map W.v).eraseIdx i = (l.eraseIdx i).map W.v
  | [], _ => rfl
  | _ :: _, 0 => rfl
  | a :: l, i + 1 => by simp [erase_map l i]
theorem pop_c {S : Cells} {n : Nat} {l : List P} {r : Int} (hS : S[n]? = some (.lst (l.map .v))) (h0 : 0 ≤ r) (h1 : r < l.length) : ∃ p, l[r.toNat]? = some p ∧ bmOp .pop0 (.c n) [.v (.int r)] S = .ok (.v p, S.set n (.lst ((l.eraseIdx r.toNat).map .v))) := by
  have hlt : r.toNat < l.length := by omega
  refine ⟨l[r.toNat], List.getElem?_eq_getElem hlt, ?_⟩
  have hix : ixN (l.map W.v).length r = some r.toNat := by
    unfold ixN
    rw [List.length_map]
    simp [h0]
    omega
  have hat : (l.map W.v)[r.toNat]? = some (.v l[r.toNat]) := by simp [hlt]
  have he : (l.map W.v).eraseIdx r.toNat = (l.eraseIdx r.toNat).map W.v := erase_map _ _
  have hlow : Cell.lows n (.lst ((l.eraseIdx r.toNat).map W.v)) = true := by
    show List.all _ _ = true
    rw [List.all_map]
    exact List.all_eq_true.mpr fun _ _ => rfl
  show popOp (.c n) [.v (.int r)] S = _
  unfold popOp
  simp only [hS, hix, hat, he]
  rw [wr_eq, if_pos hlow]
  rfl
theorem erase_perm {l : List P} {i : Nat} {p : P} (h : l[i]? = some p) : (p :: l.eraseIdx i).Perm l := by
  induction l generalizing i with
  | nil => simp at h
  | cons a l ih =>
    cases i with
    | zero =>
      simp at h
      subst h
      exact List.Perm.refl _
    | succ i =>
      simp at h
      simp only [List.eraseIdx_cons_succ]
      exact (List.Perm.swap a p _).trans ((ih h).cons a)
section
variable {T : Str → Option Fn} {g : Gm} (b : LwP T g)
include b
theorem mixed_ok {d : Nat} {s : Sm} {rest : Cells} {B : Int} {ps : List P} {Q : W × Cells → Prop} {E : XQ} (hs : s.ok B) (hB : B + 1000 < 1000000) (hz : ps.length ≤ 500)
    (k : ∀ (s' : Sm) (qs : List P), s'.ok (B + ps.length) → qs.Perm ps → Q (.v (.lst qs), s'.cells rest)) : WX (callF T g (d + 2) "_law_mixed" [.c 1, .v (.lst ps)] (s.cells rest)) Q E := by
  refine call_fn b.mixed rfl ?_
  simp [-List.map_map, f__law_mixed, startE, listCK]
  rw [WS_lift]
  refine WX_lc (famM rest) (Inv := fun xs acc z => xs.length = z.2.length ∧ (acc ++ z.2).Perm ps ∧ z.1.ok (B + acc.length)) (xs := ((List.range ps.length).map fun (i : Nat) => P.int (0 + (i : Int))).map W.v) (s := (s, ps)) (rest := []) ?_ (by simp; rw [lim_v]; omega) ⟨by simp, by simp, by simpa using hs⟩ ?_ ?_
  · have hv : (W.c (rest.length + 2)).view (s.cells (rest ++ [Cell.lst (ps.map W.v)])) = some (.lst ps) := by
      show (match (Sm.cells _ _)[rest.length + 2]? with
        | some z => z.view
        | none => none) = _
      rw [at_cells]
      simp [Cell.view, allP_map]
    simp only [vi_rng, vl_cons, ev_bf, ev_var, vl_nil, b_ok, List.getElem?_cons_succ, List.getElem?_cons_zero, bfK, viewL, hv, len_lst]
    rw [rng_n (by omega)]
    simp [famM]
  · rintro x xs acc ⟨s1, l⟩ ⟨h1, h2, h3⟩
    refine ⟨_, rfl, ?_⟩
    have hl : 0 < l.length := by
      simp at h1
      omega
    have hll : acc.length + l.length ≤ 500 := by
      have := h2.length_eq
      simp at this
      omega
    have hv : (W.c (rest.length + 2)).view (s1.cells (rest ++ .lst (l.map W.v) :: [.lst (acc.map W.v)])) = some (.lst l) := by
      show (match (Sm.cells _ _)[rest.length + 2]? with
        | some z => z.view
        | none => none) = _
      rw [at_cells]
      simp [Cell.view, allP_map]
    have hty : bmTy .pop0 (.c (rest.length + 2)) (s1.cells (rest ++ .lst (l.map W.v) :: [.lst (acc.map W.v)])) = true := by
      show bmTy.isLst _ = true
      rw [at_cells]
      rfl
    simp [-List.map_map, famM, b.gDraw, hty, bfK, viewL, hv]
    refine ⟨s1, l, rfl, ?_⟩
    rw [WX_bind]
    refine WX_draw b.draw h3 (by omega) (by omega) (by omega) fun s2 r hs2 h02 h12 => ?_
    obtain ⟨p, hp1, hp2⟩ := pop_c (S := s2.cells (rest ++ .lst (l.map W.v) :: [.lst (acc.map W.v)])) at_cells h02 h12
    rw [set_cells] at hp2
    simp [-List.map_map, hp2]
    refine ⟨p, s2, l.eraseIdx r.toNat, ⟨rfl, rfl⟩, ?_, ?_, ?_⟩
    · rw [List.length_eraseIdx_of_lt (by omega)]
      simp at h1
      omega
    · refine List.Perm.trans ?_ h2
      exact List.Perm.append_left acc (erase_perm hp1)
    · exact hs2.mono (by omega)
  · rintro qs ⟨s1, l⟩ ⟨h1, h2, h3⟩
    have hl : l = [] := by
      simp at h1
      exact List.length_eq_zero_iff.mp h1.symm
    subst hl
    simp at h2
    have := h2.length_eq
    simp [famM]
    exact k s1 qs (by rw [← this]; exact h3) h2
end
end LS

set_option Elab.async false
set_option linter.all false
set_option maxRecDepth 100000
set_option maxHeartbeats 1000000
/-! LY7: pairs that may be a paper. -/
namespace LS
open PySem L2
theorem pairs_pR : ∀ (N : List Str) (r : Str → Nat), pairsOf (N.map (pR r)) = some (pN N r)
  | [], _ => rfl
  | k :: N, r => by
    have := pairs_pR N r
    rw [List.map_cons]
    show (match keyOf (.str k), pairsOf (N.map (pR r)) with
      | some k', some r' => some ((k', P.int (r k)) :: r')
      | _, _ => none) = _
    rw [this]
    rfl
theorem dict_pR {N : List Str} {r : Str → Nat} (h : N.Nodup) : bfOp .dict [.lst (N.map (pR r))] = some (.dct (pN N r)) := by
  simp only [bfOp, pairs_pR, Option.map_some]
  rw [merge_nd (pN N r) []]
  · rfl
  · rw [List.nil_append]
    unfold pN
    rw [List.map_map]
    exact List.Pairwise.map _ (fun a b h e => h (Sum.inr.inj e)) h
theorem get_pN0 {f : Str → Nat} {k : Str} : ∀ {N : List Str}, k ∉ N → getK (pN N f) (.inr k) = none
  | [], _ => rfl
  | a :: N, h => by
    unfold pN
    rw [List.map_cons, gk_cons, if_neg (fun z => h (by simp [Sum.inr.inj z]))]
    exact get_pN0 fun z => h (List.mem_cons_of_mem _ z)
theorem in_pN {N : List Str} {f : Str → Nat} {k : Str} : inP (.str k) (.dct (pN N f)) = some (decide (k ∈ N)) := by
  simp only [inP, keyOf, Option.map_some]
  by_cases h : k ∈ N
  · rw [get_pN h, decide_eq_true h]
    rfl
  · rw [get_pN0 h, decide_eq_false h]
    rfl
/-- what told.get(k, x) is worth -/
theorem get2_pN {N : List Str} {f : Str → Nat} {k : Str} {x : Int} (hf : ∀ k ∈ N, f k ≤ 10) (h0 : 0 ≤ x) (h3 : x < 3) : ∃ t : Int, 0 ≤ t ∧ t ≤ 10 ∧ ((getK (pN N f) (.inr k)).map W.v).getD (.v (.int x)) = .v (.int t) := by
  by_cases h : k ∈ N
  · exact ⟨f k, by omega, by have := hf k h; omega, by rw [get_pN h]; rfl⟩
  · exact ⟨x, h0, by omega, by rw [get_pN0 h]; rfl⟩
theorem good_zz : good (Str.ofString "zz") := by
  have e : Str.ofString "zz" = ⟨#[122, 122]⟩ := by decide +kernel
  rw [e]
  refine ⟨by decide, by decide, by decide +kernel, ?_⟩
  intro c hc
  have : c = 122 := by simpa using hc
  subst this
  decide
theorem of_pK {ks : List (Str × Bool)} : ∀ {qs : List P}, (∀ q ∈ qs, q ∈ ks.map pK) → ∃ ks' : List (Str × Bool), qs = ks'.map pK ∧ ∀ k ∈ ks', k ∈ ks
  | [], _ => ⟨[], rfl, fun _ h => by cases h⟩
  | q :: qs, h => by
    obtain ⟨ks', e, h2⟩ := of_pK (qs := qs) fun q hq => h q (List.mem_cons_of_mem _ hq)
    obtain ⟨k, hk, rfl⟩ := List.mem_map.mp (h q List.mem_cons_self)
    exact ⟨k :: ks', by rw [e]; rfl, fun x hx => by
      rcases List.mem_cons.mp hx with rfl | hx
      · exact hk
      · exact h2 x hx⟩
@[simp] theorem mul_i {x y : Int} {S : Cells} : binOp .mul (.v (.int x)) (.v (.int y)) S = if x.natAbs < 18446744073709551616 ∨ y.natAbs < 18446744073709551616 then .ok (.v (.int (x * y)), S) else .no := id rfl
theorem pow29 {S : Cells} : binOp .pow (.v (.int 10)) (.v (.int 29)) S = .ok (.v (.int 100000000000000000000000000000), S) := rfl
/-- a pair found -/
def pF (f : Str × P) : P := .tup [.str f.1, f.2]
section
variable {T : Str → Option Fn} {g : Gm} (b : LwP T g)
include b
theorem told_ok {d : Nat} {s : Sm} {rest : Cells} {ks : List (Str × Bool)} {cs : List Col} {ch : List Str} {env : Env} (h : Shape ks cs) (hl2 : ks.length ≤ 3) (hl : cs.length ≤ 4) (hfu : 100 < g.fu) (he : env[1]? = some (some (.v (pB ks cs ch)))) :
    ∃ (N : List Str) (r : Str → Nat), (∀ k ∈ N, r k ≤ 10) ∧ evE ⟨callF T g (d + 4), g⟩ (.bf .dict (.cons (.or (.call "_law_ranks" (.cons (.var 1) .nil)) (.lst false .nil)) .nil)) env (s.cells rest) = .ok (.v (.dct (pN N r)), s.cells rest) := by
  have hNn : (tightL ks cs ch).Nodup := ((List.nodup_append.mp h.nd).1.filter _).filter _
  have hNl := tight_len ks cs ch
  suffices hw : WX (evE ⟨callF T g (d + 4), g⟩ (.bf .dict (.cons (.or (.call "_law_ranks" (.cons (.var 1) .nil)) (.lst false .nil)) .nil)) env (s.cells rest)) (fun q => ∃ (N : List Str) (r : Str → Nat), (∀ k ∈ N, r k ≤ 10) ∧ q = (.v (.dct (pN N r)), s.cells rest)) fun _ _ _ => False by
    obtain ⟨q, h1, N, r, h2, rfl⟩ := WX_eq hw
    exact ⟨N, r, h2, h1⟩
  simp [-List.map_map, b.gRanks, he]
  rw [WX_bind]
  refine lranks_ok b.toLwR (d := d) b.ranks (bat_v (ch := ch)) h (by omega) (by omega) hfu (fun r hr => ?_) (fun L hL hr => ?_)
  · cases hN : tightL ks cs ch with
    | nil =>
      have e1 : andOp (.v (.lst (([] : List Str).map (pR r))), s.cells rest) (fun S => R.ok (.v (.lst []), S)) false = .ok (.v (.lst []), s.cells rest) := rfl
      rw [e1]
      simp only [b_ok, bfK_1]
      exact ⟨[], fun _ => 0, (by simp), rfl⟩
    | cons a N =>
      have hd := dict_pR (N := tightL ks cs ch) (r := r) hNn
      have e1 : andOp (.v (.lst ((a :: N).map (pR r))), s.cells rest) (fun S => R.ok (.v (.lst []), S)) false = .ok (.v (.lst ((a :: N).map (pR r))), s.cells rest) := rfl
      rw [e1]
      rw [hN] at hd
      simp only [b_ok, bfK_1, hd]
      exact ⟨a :: N, r, fun k hk => by
        rw [← hN] at hk
        have := (hr k hk).2
        omega, rfl⟩
  · have e1 : andOp (.v .non, s.cells rest) (fun S => R.ok (.v (.lst []), S)) false = .ok (.v (.lst []), s.cells rest) := rfl
    rw [e1]
    simp only [b_ok, bfK_1]
    exact ⟨[], fun _ => 0, (by simp), rfl⟩
theorem pairs_ok {d : Nat} {s : Sm} {rest : Cells} {B : Int} {ks : List (Str × Bool)} {cs : List Col} {ch : List Str} {Q : W × Cells → Prop} {E : XQ} (h : Shape ks cs) (hk0 : 0 < ks.length) (hl2 : ks.length ≤ 3) (hl : cs.length ≤ 4) (hc0 : 0 < cs.length) (hfu : 100 < g.fu) (hs : s.ok B) (hB : B + 2000 < 1000000)
    (k : ∀ (s' : Sm) (es : List Ent), s'.ok (B + 30) → (∀ e ∈ es, plainTy e.n = true ∧ good e.k) → es.length ≤ 10 → Q (.v (.lst (es.map pE)), s'.cells rest)) : WX (callF T g (d + 5) "_law_pairs" [.c 1, .v (pB ks cs ch)] (s.cells rest)) Q E := by
  refine call_fn b.pairs rfl ?_
  obtain ⟨N, r, hr, he⟩ := told_ok b (d := d) (s := s) (rest := rest) (env := startE 9 [.c 1, .v (pB ks cs ch)]) h hl2 hl hfu rfl
  show WS (exS ⟨callF T g (d + 4), g⟩ f__law_pairs (startE 9 [.c 1, .v (pB ks cs ch)]) (s.cells rest)) _
  unfold f__law_pairs
  rw [xs_cons, xs_par, vl_cons, he]
  simp [-List.map_map, startE, b.gMixed, bat_v.k0]
  rw [WS_lift, WX_bind]
  refine mixed_ok b (d := d + 2) (s := s) (rest := rest ++ [.lst []]) (B := B) (ps := ks.map pK) hs (by omega) (by simp; omega) fun s1 qs hs1 hperm => ?_
  obtain ⟨ks', rfl, hks'⟩ := of_pK (ks := ks) (qs := qs) fun q hq => hperm.subset hq
  have hkl : ks'.length ≤ 3 := by
    have := hperm.length_eq
    simp at this
    omega
  simp [-List.map_map]
  rw [WS_seq]
  refine WS_forM ks' pK (fun done env S' => ∃ (s : Sm) (fs : List (Str × P)) (o4 o5 o6 o7 o8 : Option W), env = [some (.c 1), some (.v (pB ks cs ch)), some (.v (.dct (pN N r))), some (.c (rest.length + 2)), o4, o5, o6, o7, o8] ∧ S' = s.cells (rest ++ [.lst ((fs.map pF).map .v)]) ∧ s.ok (B + 3 + 3 * done.length) ∧ fs.length ≤ done.length ∧ ∀ f ∈ fs, plainTy f.2 = true ∧ good f.1) rfl ⟨s1, [], none, none, none, none, none, rfl, rfl, hs1.mono (by simp; omega), by simp, by simp⟩ ?_ ?_
  · rintro done y todo env S' hy ⟨s, fs, o4, o5, o6, o7, o8, rfl, rfl, hs, hfl, hfs⟩
    refine ⟨_, rfl, ?_⟩
    have hdl : done.length < 3 := by
      have := congrArg List.length hy
      simp at this
      omega
    have hyg : good y.1 := h.good y.1 (List.mem_append_left _ (List.mem_map_of_mem (hks' y (by rw [hy]; simp))))
    simp [-List.map_map, b.gDraw]
    rw [WS_lift]
    refine WX_draw b.draw hs (by omega) (by decide) (by decide) fun s2 w hs2 hw0 hw1 => ?_
    simp [-List.map_map, b.gDraw]
    rw [WS_lift, WX_bind]
    refine WX_draw b.draw hs2 (by omega) (by decide) (by decide) fun s3 x hs3 hx0 hx1 => ?_
    obtain ⟨t, ht0, ht1, ht⟩ := get2_pN (N := N) (f := r) (k := y.1) (x := x) hr hx0 hx1
    have ht2 : t.natAbs < 18446744073709551616 := by omega
    have h01 : (if w = 5 then (1 : Int) else 0).natAbs < 18446744073709551616 := by split <;> decide
    have hin := fun (n : P) (hn : plainTy n = true) (s4 : Sm) (hs4 : s4.ok (B + 3 + 3 * done.length + 3)) => (⟨s4, fs ++ [(y.1, n)], by simp [pF], hs4.mono (by omega), by simpa using hfl, fun f hf => by
      rcases List.mem_append.mp hf with hf | hf
      · exact hfs f hf
      · have : f = (y.1, n) := by simpa using hf
        subst this
        exact ⟨hn, hyg⟩⟩ : ∃ (x : Sm) (x_1 : List (Str × P)), s4.cells (rest ++ [.lst (((fs ++ [(y.1, n)]).map pF).map .v)]) = x.cells (rest ++ [.lst ((x_1.map pF).map .v)]) ∧ x.ok (B + 3 + 3 * (done.length + 1)) ∧ x_1.length ≤ done.length + 1 ∧ ∀ f ∈ x_1, plainTy f.2 = true ∧ good f.1)
    simp only [ht, mul_i, pow29, b_ok, if_pos (Or.inl ht2), vw_v, pfK_s, intB_b, decide_eq_true_eq, if_pos (Or.inr h01), add_int, WX_ok, WS_lift]
    have hfi : ∀ (s4 : Sm) (n : P) (e : Env), e = [some (.c 1), some (.v (pB ks cs ch)), some (.v (.dct (pN N r))), some (.c (rest.length + 2)), some (.v (.str y.1)), some (.v (.bl y.2)), some (.v (.int w)), some (.v n), o8] → True := fun _ _ _ _ => trivial
    by_cases hw : w = 0
    · subst hw
      simp [-List.map_map, lim_v, b.gPick]
      rw [WS_lift]
      refine WX_pick b.toLwB (d := d + 2) hs3 (by omega) (by simp) (by simp) fun s4 p hs4 hp => ?_
      have hpp : plainTy p = true := by
        simp at hp
        rcases hp with rfl | rfl | rfl | rfl | rfl | rfl <;> rfl
      simp [-List.map_map, lim_v, show fs.length < 1000000 by omega]
      simpa [-List.map_map, pF] using hin p hpp s4 (hs4.mono (by omega))
    · by_cases hw6 : w < 6
      · simp [-List.map_map, hw, hw6, lim_v, show fs.length < 1000000 by omega]
        simpa [-List.map_map, pF] using hin _ rfl s3 (hs3.mono (by omega))
      · by_cases hw7 : y.1 ∈ N ∧ w = 6
        · simp [-List.map_map, hw, hw6, hw7.1, hw7.2, in_pN, lim_v, show fs.length < 1000000 by omega]
          simpa [-List.map_map, pF] using hin _ rfl s3 (hs3.mono (by omega))
        · by_cases hyN : y.1 ∈ N
          · have hw6' : w ≠ 6 := fun z => hw7 ⟨hyN, z⟩
            simp [-List.map_map, hw, hw6, hyN, hw6', in_pN]
            exact ⟨s3, fs, rfl, hs3.mono (by omega), by omega, fun a b hab => hfs (a, b) hab⟩
          · simp [-List.map_map, hw, hw6, hyN, in_pN]
            exact ⟨s3, fs, rfl, hs3.mono (by omega), by omega, fun a b hab => hfs (a, b) hab⟩
  · rintro env S' ⟨s3, fs, o4, o5, o6, o7, o8, rfl, rfl, hs3, hfl, hfs⟩
    have hlast : ∀ (s4 : Sm) (fs : List (Str × P)), s4.ok (B + 20) → fs.length ≤ 4 → (∀ f ∈ fs, plainTy f.2 = true ∧ good f.1) → WX (evE ⟨callF T g (d + 4), g⟩ (.lc false [("_law_pair", 8)] (.name 8) (.it (.var 3)) .nil (.ite (.cmp .eq (.call "_law_draw" (.cons (.var 0) (.cons (.lit (.int 3)) .nil))) (.lit (.int 0))) (.bf .list (.cons (.var 8) .nil)) (.var 8))) [some (.c 1), some (.v (pB ks cs ch)), some (.v (.dct (pN N r))), some (.c (rest.length + 2)), o4, o5, o6, o7, o8] (s4.cells (rest ++ [.lst ((fs.map pF).map .v)]))) (fun q => ∃ (s5 : Sm) (es : List Ent), q = (.v (.lst (es.map pE)), Sm.cells s5 (rest ++ [.lst ((fs.map pF).map .v)])) ∧ s5.ok (B + 30) ∧ (∀ e ∈ es, plainTy e.n = true ∧ good e.k) ∧ es.length ≤ 10) fun _ _ _ => False := by
      intro s4 fs hs4 hfl hfs
      refine WX_lcC (rest := rest ++ [.lst ((fs.map pF).map .v)]) (n := rest.length + 2) (ps := fs.map pF) (s := s4) (fun xs acc s => ∃ (gs hs : List (Str × P)) (es : List Ent), fs = gs ++ hs ∧ xs = hs.map pF ∧ acc = es.map pE ∧ es.length = gs.length ∧ (∀ e ∈ es, plainTy e.n = true ∧ good e.k) ∧ s.ok (B + 20 + gs.length)) (by simp [-List.map_map, itemsOf]) (fun s => at_cells) (by rw [List.length_map]; show fs.length < g.fu; omega) (by rw [List.length_map, lim_v]; omega) ⟨[], fs, [], rfl, rfl, rfl, rfl, by simp, by simpa using hs4⟩ ?_ ?_
      · rintro x xs acc s _ ⟨gs, hs, es, e1, e2, rfl, e4, e5, e6⟩
        cases hs with
        | nil => cases e2
        | cons f hs =>
          cases e2
          have hgl : gs.length < 4 := by
            have := congrArg List.length e1
            simp at this
            omega
          have hff := hfs f (by rw [e1]; simp)
          refine ⟨_, rfl, ?_⟩
          simp [-List.map_map, b.gDraw]
          rw [WX_bind]
          refine WX_draw b.draw e6 (by omega) (by decide) (by decide) fun s6 r6 hs6 h06 h16 => ?_
          simp [-List.map_map]
          split
          · simp [-List.map_map, pF]
            refine ⟨_, s6, ⟨rfl, rfl⟩, gs ++ [f], hs, by simp [e1], by simp, es ++ [⟨f.1, f.2, true⟩], by simp [pE], by simp [e4], ?_, ?_⟩
            · intro e he
              rcases List.mem_append.mp he with he | he
              · exact e5 e he
              · simp only [List.mem_singleton] at he
                subst he
                exact hff
            · exact hs6.mono (by simp; omega)
          · simp [-List.map_map, pF]
            refine ⟨_, s6, ⟨rfl, rfl⟩, gs ++ [f], hs, by simp [e1], by simp, es ++ [⟨f.1, f.2, false⟩], by simp [pE], by simp [e4], ?_, ?_⟩
            · intro e he
              rcases List.mem_append.mp he with he | he
              · exact e5 e he
              · simp only [List.mem_singleton] at he
                subst he
                exact hff
            · exact hs6.mono (by simp; omega)
      · rintro qs s ⟨gs, hs, es, e1, e2, rfl, e4, e5, e6⟩
        cases hs with
        | cons f hs => cases e2
        | nil =>
          have hgl : gs.length ≤ 4 := by
            have := congrArg List.length e1
            simp at this
            omega
          exact ⟨s, es, rfl, e6.mono (by omega), e5, by omega⟩
    simp [-List.map_map, b.gDraw]
    rw [WS_lift, WX_bind]
    refine WX_draw b.draw hs3 (by omega) (by decide) (by decide) fun s4 w hs4 hw0 hw1 => ?_
    by_cases hw : w = 0
    · obtain ⟨k1, ks1, ek⟩ : ∃ k1 ks1, ks = k1 :: ks1 := by
        cases ks with
        | nil => simp at hk0
        | cons a l => exact ⟨a, l, rfl⟩
      obtain ⟨c1, cs1, ec⟩ : ∃ c1 cs1, cs = c1 :: cs1 := by
        cases cs with
        | nil => simp at hc0
        | cons a l => exact ⟨a, l, rfl⟩
      have e1 : ixP (.lst (ks.map pK)) (.int 0) = some (pK k1) := by rw [ek]; simp [ixP, atI, ixN]
      have e2 : ixP (.lst (cs.map pC)) (.int 0) = some (pC c1) := by rw [ec]; simp [ixP, atI, ixN]
      have e3 : ixP (pK k1) (.int 0) = some (.str k1.1) := rfl
      have e4 : ixP (pC c1) (.int 0) = some (.str c1.name) := rfl
      simp [-List.map_map, hw, lim_v, b.gPick, e1, e2, e3, e4]
      rw [WS_lift, WX_bind]
      refine WX_pick b.toLwB (d := d + 2) hs4 (by omega) (by simp) (by simp) fun s5 p hs5 hp => ?_
      obtain ⟨z, rfl, hz⟩ : ∃ z, p = .str z ∧ good z := by
        simp at hp
        rcases hp with rfl | rfl | rfl
        · exact ⟨_, rfl, h.good _ (List.mem_append_left _ (by rw [ek]; simp))⟩
        · exact ⟨_, rfl, h.good _ (List.mem_append_right _ (by rw [ec]; simp))⟩
        · exact ⟨_, rfl, good_zz⟩
      have e5 : (fs.map pF).map W.v ++ [W.v (.tup [.str z, .int 7])] = ((fs ++ [(z, P.int 7)]).map pF).map W.v := by simp [pF]
      simp [-List.map_map, -List.map_append, lim_v, show fs.length < 1000000 by omega, e5]
      obtain ⟨q, hq, s6, es, rfl, h5, h6, h7⟩ := WX_eq (hlast s5 (fs ++ [(z, .int 7)]) (hs5.mono (by omega)) (by simp; omega) (fun f hf => by
        rcases List.mem_append.mp hf with hf | hf
        · exact hfs f hf
        · simp only [List.mem_singleton] at hf
          subst hf
          exact ⟨rfl, hz⟩))
      rw [WS_lift, hq]
      simp [-List.map_map]
      exact k s6 es h5 h6 h7
    · simp [-List.map_map, hw]
      obtain ⟨q, hq, s6, es, rfl, h5, h6, h7⟩ := WX_eq (hlast s4 fs (hs4.mono (by omega)) (by omega) hfs)
      rw [WS_lift, hq]
      simp [-List.map_map]
      exact k s6 es h5 h6 h7
end
end LS

set_option Elab.async false
set_option linter.all false
set_option maxRecDepth 100000
set_option maxHeartbeats 4000000
/-! k48: the law. -/
namespace LS
open PySem L2
theorem str_start {ns : List Int} : (alloc (.lst (ns.map fun i => .v (.int i))) []).bind (fun a => alloc (.lst [a.1, .v (.int 0), .v (.int 0), .v (.int 0)]) a.2) = .ok (.c 1, Sm.cells ⟨ns, 0, 0, 0⟩ []) := by
  have h : Cell.lows 0 (.lst (ns.map fun i => .v (.int i))) = true := ints_low ns 0
  simp only [alloc, List.length_nil]
  rw [if_pos h]
  rfl
def rankE (r : Str → Nat) (k : Str) : Ent := ⟨k, .int (r k), false⟩
theorem rankE_p (r : Str → Nat) (N : List Str) : (N.map (rankE r)).map pE = N.map (pR r) := by
  rw [List.map_map]
  rfl
theorem rankE_k (r : Str → Nat) (N : List Str) : (N.map (rankE r)).map (·.k) = N := by
  rw [List.map_map]
  exact List.map_id _
theorem rankE_v {r : Str → Nat} {k : Str} : ∀ {N : List Str}, k ∈ N → valE (N.map (rankE r)) k = r k
  | a :: N, h => by
    by_cases e : a = k
    · subst e
      simp [valE, rankE, kE, gk_cons, numE]
    · have hm : k ∈ N := by
        rcases List.mem_cons.mp h with z | z
        · exact absurd z.symm e
        · exact z
      have := rankE_v (r := r) hm
      unfold valE at this ⊢
      rw [List.map_cons, List.map_cons, show kE (rankE r a) = (.inr a, .int (r a)) from rfl, gk_cons, if_neg (fun z => e (Sum.inr.inj z))]
      exact this
theorem rank_paper_true {ks : List (Str × Bool)} {cs : List Col} {ch : List Str} {r : Str → Nat} (h : Shape ks cs) (hr : ∀ k ∈ tightL ks cs ch, RankEq (tieL ks cs ch) r k) : paperB ks cs ch ((tightL ks cs ch).map (rankE r)) = true := by
  have hNn : (tightL ks cs ch).Nodup := ((List.nodup_append.mp h.nd).1.filter _).filter _
  unfold paperB
  rw [Bool.and_eq_true, Bool.and_eq_true]
  refine ⟨?_, ?_, ?_⟩
  · unfold goodE
    rw [List.all_map, List.all_eq_true]
    intro k hk
    show (decide (k ∈ ks.map (·.1)) && okN (.int (r k))) = true
    rw [decide_eq_true (tight_mem hk)]
    simp [okN]
  · rw [rankE_k]
    exact decide_eq_true hNn
  · unfold restE
    rw [rankE_k, Bool.and_eq_true, List.all_eq_true, List.all_eq_true]
    refine ⟨fun k hk => decide_eq_true hk, fun c hc => ?_⟩
    obtain ⟨h1, h2⟩ := tightC_in hc
    rw [rankE_v h1, rankE_v h2]
    have := (hr c.home h1).1 c.goal (tie_of hc)
    exact decide_eq_true (by omega)
theorem k48_law (ns : List Int) (hns : ns.length ≤ 63) : ∃ S, callF T gm 40 "law" [.v (.scr ns)] [] = .ok (.v (.bl true), S) := by
  have bk : BkP T gm := by constructor <;> first | (constructor <;> first | (constructor <;> first | (constructor <;> first | rfl | decide +kernel) | rfl | decide +kernel) | rfl | decide +kernel) | rfl | decide +kernel
  have lw : LwP T gm := by constructor <;> first | (constructor <;> first | (constructor <;> first | (constructor <;> first | (constructor <;> first | rfl | decide +kernel) | rfl | decide +kernel) | rfl | decide +kernel) | rfl | decide +kernel) | rfl | decide +kernel
  suffices hw : WX (callF T gm 40 "law" [.v (.scr ns)] []) (fun q => q.1 = .v (.bl true)) fun _ _ _ => False by
    obtain ⟨⟨a, S⟩, h1, h2⟩ := WX_eq hw
    cases h2
    exact ⟨S, h1⟩
  refine call_fn (d := 39) (show T "law" = some (.fn 9 1 [] f_law false) from rfl) rfl ?_
  simp [-List.map_map, f_law, startE, listCK, lim_v]
  rw [str_start, show rngOf [.v (.int 2)] = .ok (.st ((List.range 2).map fun (i : Nat) => W.v (.int (0 + (i : Int))))) from rng_n (n := 2) (by decide)]
  simp [-List.map_map]
  rw [WS_seq]
  refine WS_for (fun xs env S => ∃ (s : Sm) (R : Cells) (o2 o3 o4 o5 o6 o7 o8 : Option W), env = [some (.v (.scr ns)), some (.c 1), o2, o3, o4, o5, o6, o7, o8] ∧ S = s.cells R ∧ s.ok ((2 - xs.length) * 1000) ∧ xs.length ≤ 2) ?_ ?_ ⟨_, [], none, none, none, none, none, none, none, rfl, rfl, ⟨by simp, by simp, by simp, by simp, by simp⟩, by simp⟩
  · rintro x xs env S ⟨s, R, o2, o3, o4, o5, o6, o7, o8, rfl, rfl, hs, hx⟩
    refine ⟨_, rfl, ?_⟩
    simp only [List.length_cons] at hs hx
    obtain ⟨B, hB⟩ : ∃ B : Int, B = (2 - ((xs.length + 1 : Nat) : Int)) * 1000 := ⟨_, rfl⟩
    rw [← hB] at hs
    simp [-List.map_map, lw.gRules, show gm.fn "_law_bared" = true from rfl]
    rw [WS_lift, WX_bind]
    refine rules_ok lw.toLwB (d := 34) (many := 3) (mo := 4) hs (by omega) (by decide) (by decide) (by decide) (by decide) fun s1 ks cs ch hs1 hsh hk0 hk hc hc0 hch => ?_
    refine bared_ok lw.toLwR (d := 37) rfl rfl rfl hsh hk (fun x hx => hch.subset hx) (by have := hch.length_le; rw [menu_len] at this; simp at this; omega) hs1 (by omega) fun s2 ch' hs2 hch' => ?_
    have hmade := fun S => made_ok lw.toLwC bk.toBkA (d := 33) (S := S) bat_v hsh (by omega) (by omega) (show 100 < gm.fu by decide) hch'
    have hNl := tight_len ks cs ch'
    have hsame := fun S b => same_ok lw.toLwA (d := 38) (S := S) (ro_bl (b := b)) (by decide) (by decide)
    simp [-List.map_map, lw.gMade, hmade, lw.gRanks]
    rw [WS_lift, WX_bind]
    refine lranks_ok lw.toLwR (d := 35) rfl (bat_v (ch := ch')) hsh (by omega) (by omega) (show 100 < gm.fu by decide) (fun r hr => ?g1) (fun L hL hr => ?g2)
    case' g1 =>
      have hpap := fun S => paper_ok bk (d := 32) (S := S) (ks := ks) (cs := cs) (ch := ch') (es := (tightL ks cs ch').map (rankE r)) (p := .lst ((tightL ks cs ch').map (pR r))) rfl (fun S => by rw [rankE_p]; rfl) (by simp) hsh (by omega) (by omega) (show 100 < gm.fu by decide) (fun e he => by obtain ⟨k, _, rfl⟩ := List.mem_map.mp he; rfl) (by rw [List.length_map]; omega)
      rw [rank_paper_true hsh fun k hk => (hr k hk).1] at hpap
      simp [-List.map_map, bk.gIsPaper, hpap, lw.gSame, hsame, isNon]
    case' g2 =>
      simp [-List.map_map, isNon]
    all_goals
      rw [show rngOf [.v (.int 6)] = .ok (.st ((List.range 6).map fun (i : Nat) => W.v (.int (0 + (i : Int))))) from rng_n (n := 6) (by decide)]
      simp [-List.map_map]
      rw [WS_seq]
      refine WS_for (fun xs env S => ∃ (s : Sm) (o4 o6 o7 o8 : Option W), env = [some (.v (.scr ns)), some (.c 1), some x, some (.v (pB ks cs ch')), o4, some (.v (pBook ks cs ch')), o6, o7, o8] ∧ S = s.cells R ∧ s.ok (B + 710 + (6 - xs.length) * 40) ∧ xs.length ≤ 6) ?_ ?_ ⟨s2, _, _, _, _, rfl, rfl, hs2.mono (by simp; omega), by simp⟩
      · rintro x' xs' env S ⟨s3, o4, o6, o7, o8, rfl, rfl, hs3, hx3⟩
        refine ⟨_, rfl, ?_⟩
        simp only [List.length_cons] at hs3 hx3
        obtain ⟨B', hB'⟩ : ∃ B' : Int, B' = B + 710 + (6 - ((xs'.length + 1 : Nat) : Int)) * 40 := ⟨_, rfl⟩
        rw [← hB'] at hs3
        simp [-List.map_map, show gm.fn "_law_pairs" = true from rfl]
        rw [WS_lift]
        refine pairs_ok lw (d := 34) hsh hk0 hk hc hc0 (show 100 < gm.fu by decide) hs3 (by omega) fun s4 es hs4 hes hel => ?_
        have hfal := fun S => falls_ok lw (d := 35) (S := S) (bat_v (ch := ch')) hsh (by omega) (by omega) (fun e he => (hes e he).1) (fun e he => (hes e he).2) (by omega)
        have hp1 := fun S => paper_ok bk (d := 32) (S := S) (ch := ch') (es := es) (p := .lst (es.map pE)) rfl (fun S => rfl) (by simp) hsh (by omega) (by omega) (show 100 < gm.fu by decide) (fun e he => (hes e he).1) (by omega)
        have hp2 := fun S => paper_ok bk (d := 32) (S := S) (ch := ch') (es := es) (p := .tup (es.map pE)) rfl (fun S => rfl) (by simp) hsh (by omega) (by omega) (show 100 < gm.fu by decide) (fun e he => (hes e he).1) (by omega)
        simp [-List.map_map, lw.gDraw]
        rw [WS_lift, WX_bind]
        refine WX_draw lw.draw hs4 (by omega) (by decide) (by decide) fun s5 w hs5 hw0 hw1 => ?_
        by_cases hw : w = 0
        · simp [-List.map_map, hw, bk.gIsPaper, hp2, hfal, lw.gSame, hsame, show gm.fn "_law_falls" = true from rfl]
          exact ⟨s5, rfl, hs5.mono (by omega), by omega⟩
        · simp [-List.map_map, hw, bk.gIsPaper, hp1, hfal, lw.gSame, hsame, show gm.fn "_law_falls" = true from rfl]
          exact ⟨s5, rfl, hs5.mono (by omega), by omega⟩
      · rintro env S ⟨s3, o4, o6, o7, o8, rfl, rfl, hs3, hx3⟩
        simp
        exact ⟨s3, ⟨_, rfl⟩, hs3.mono (by simp; omega), by omega⟩
  · rintro env S ⟨s, R, o2, o3, o4, o5, o6, o7, o8, rfl, rfl, hs, hx⟩
    simp
end LS

set_option maxRecDepth 100000 in
set_option maxHeartbeats 8000000 in
theorem PySem.Challenge.cw_longstrike_k48_rank_papers_holds : PySem.Challenge.rw_longstrike_k48_rank_papers.Holds :=
  LS.walk LS.k48_law
