import PyProof.Rows.All
import Wide.All
import OpenK.AllK
import Wide.FinOn
import HandS.ForMost
import HandS.Iter
import HandS.TupLe
import HandS.Exc
import HandS.TryOnly
import HandS.TryMany
import HandS.ExcOwn
import HandS.WordsExc
import HandS.ExcInit
import HandS.CallSlots
import HandS.Wide
import HandS.More
import HandS.NoneIn
import HandS.Sort
import HandS.SortRule
import HandS.SortInts
import HandS.Deep
import HandS.Rev
import HandS.TupAny
import HandS.Conv
import HandS.RaiseMore
import HandS.SetFor
import HandS.ExcIs
import HandS.ExcField
import HandS.IsInst
import HandS.Defaults
import HandS.HeadEnd
import HandS.HeadHook1
import HandS.HeadHook2
import HandS.Head0
import HandS.Head1
import HandS.Head2
import PySem.Challenge.RW_termcourt_k22_the_last_row_says
set_option Elab.async false
set_option linter.all false
set_option maxRecDepth 100000
/-! SI 1: a small language without places, its reading off the given text, its interpreter. -/
namespace SI
open PySem

inductive BOp | add | sub | mul | fdiv | mod | pow | band | shr
  deriving DecidableEq
inductive COp | eq | ne | lt | le | gt | ge | is | isnot | isin | notin
  deriving DecidableEq
/-- a built-in that is called by its name -/
inductive BI | len | int | str | divmod | max | min | list | tuple | sorted | all | rev
  deriving DecidableEq
/-- a built-in type's method -/
inductive BM | append | clear | extend | reverse | insert | pop | index | count | split | join | find | dpop | get
  deriving DecidableEq
/-- what is asked by isinstance: a built-in class, a class of the text -/
inductive TyN | int | bool | str | list | tuple | dict | non
  deriving DecidableEq
inductive Ty | bi (x : TyN) | own (x : Str)

mutual
inductive E where
  | int (i : Int) | bl (b : Bool) | non | str (s : Str)
  | loc (i : Nat) | glo (x : Str)
  | bin (op : BOp) (a b : E) | neg (a : E) | not (a : E)
  | and (a b : E) | or (a b : E)
  | cmp (op : COp) (a b : E) | chain (o1 o2 : COp) (a b c : E)
  | tup (es : Es) | lst (es : Es)
  | idx (a i : E) | sl (a : E) (lo hi : Option E)
  | bi (b : BI) (es : Es)
  | isi (a : E) (ts : List Ty) (one : Bool)
  | call (f : Str) (es : Es)
  | mk (c : Str) (es : Es)
  | bm (m : BM) (o : E) (es : Es)
  | meth (o : E) (m : Str) (es : Es)
  | fld (o : E) (f : Str)
  | lc (g : List Nat) (one : Bool) (it : Wk) (c : Option E) (e : E)
  | dct (ks vs : Es) | dcp (e : E)
  | bad
inductive Es where
  | nil
  | cons (e : E) (es : Es)
/-- what is walked -/
inductive Wk where
  | rng (es : Es)
  | seq (e : E)
  | rev (e : E)
end
inductive S where
  | nop
  | seq (a b : S)
  | asg (i : Nat) (e : E)
  | unp (is : List Nat) (e : E)
  | setI (o i e : E)
  | setF (o : E) (f : Str) (e : E)
  | aug (i : Nat) (op : BOp) (e : E)
  | expr (e : E)
  | ret (e : E)
  | retN
  | ifs (c : E) (a b : S)
  | loop (g : List Nat) (one : Bool) (it : Wk) (b : S)
  | whl (c : E) (b : S)
  | raiseT (c : Str)
  | bad

/-! ### reading the text -/
def ix (x : Str) : List Str → Nat → Option Nat
  | [], _ => none
  | y :: r, i => if x = y then some i else ix x r (i + 1)
def bop : Operator → Option BOp
  | .Add => some .add | .Sub => some .sub | .Mult => some .mul | .FloorDiv => some .fdiv | .Mod => some .mod | .Pow => some .pow | .BitAnd => some .band | .RShift => some .shr
  | _ => none
def cop : CmpOp → Option COp
  | .Eq => some .eq | .NotEq => some .ne | .Lt => some .lt | .LtE => some .le | .Gt => some .gt | .GtE => some .ge | .Is => some .is | .IsNot => some .isnot | .In => some .isin | .NotIn => some .notin
def biOf (x : Str) : Option BI :=
  if x = "len" then some .len else if x = "int" then some .int else if x = "str" then some .str else if x = "divmod" then some .divmod else if x = "max" then some .max else if x = "min" then some .min
  else if x = "list" then some .list else if x = "tuple" then some .tuple else if x = "sorted" then some .sorted else if x = "all" then some .all else none
def bNames : List Str := ["len", "int", "str", "divmod", "max", "min", "list", "tuple", "sorted", "all", "isinstance", "range", "bool", "dict", "ValueError", "reversed", "set"]
/-- a built-in's method, by its name and the number of its arguments -/
def bmOf (x : Str) (n : Nat) : Option BM :=
  if n = 0 then (if x = "clear" then some .clear else if x = "reverse" then some .reverse else if x = "pop" then some .pop else none)
  else if n = 1 then (if x = "append" then some .append else if x = "extend" then some .extend else if x = "index" then some .index else if x = "count" then some .count else if x = "split" then some .split
    else if x = "join" then some .join else if x = "find" then some .find else if x = "pop" then some .dpop else none)
  else if n = 2 then (if x = "insert" then some .insert else if x = "get" then some .get else none)
  else none
/-- a class's name begins with a great letter -/
def upper (x : Str) : Bool := match x.cps[0]? with
  | some c => decide (65 ≤ c) && decide (c ≤ 90)
  | none => false
def isSet : Expr → Bool
  | .Set _ _ _ => true
  | _ => false
/-- the receivers that are served -/
def recvOk : Expr → Bool
  | .Name _ _ => true
  | .Constant (.str _) _ _ => true
  | .Attribute _ _ _ => true
  | .Subscript _ _ _ => true
  | .Call _ (_ :: _) _ _ => true
  | .Call (.Attribute _ _ _) [] _ _ => true
  | _ => false
def isStar : Expr → Bool
  | .Starred _ _ => true
  | _ => false
/-- a local's slot -/
def slotOf (N : List Str) (sc : Scope) (x : Str) : Option Nat :=
  match sc.names.lookup x with
  | some .local => ix x N 0
  | some .cell => ix x N 0
  | _ => none
def isGl (sc : Scope) (x : Str) : Bool :=
  match sc.names.lookup x with
  | some .globalImplicit => !(x == ("__debug__" : Str))
  | _ => false
def tyOf (sc : Scope) : Expr → Option Ty
  | .Name x _ => if isGl sc x = true then (if x = "int" then some (.bi .int) else if x = "bool" then some (.bi .bool) else if x = "str" then some (.bi .str) else if x = "list" then some (.bi .list) else if x = "tuple" then some (.bi .tuple)
      else if x = "dict" then some (.bi .dict) else some (.own x)) else none
  | _ => none
/-- the names of a target: (slots, it is one name) -/
def tgOf (N : List Str) (sc : Scope) : Expr → Option (List Nat × Bool)
  | .Name x _ => (slotOf N sc x).map fun i => ([i], true)
  | .Tuple ts _ _ => (ts.mapM fun (t : Expr) => match t with
      | .Name x _ => slotOf N sc x
      | _ => none).map fun is => (is, false)
  | _ => none
/-- the comprehension's own names with their slots -/
def ownOf (N : List Str) (sc : Scope) : List (Str × Nat) := sc.names.filterMap fun y => match y.2 with
  | .local => (ix y.1 N 0).map fun i => (y.1, i)
  | .cell => (ix y.1 N 0).map fun i => (y.1, i)
  | _ => none
/-- the comprehension's own names are its target -/
def ownIs (own : List (Str × Nat)) (g : List Nat) : Bool := (own.all fun y => g.contains y.2) && g.all fun i => own.any fun y => y.2 == i
/-- reversed(e) -/
def revArg (sc : Scope) : Expr → Option Expr
  | .Call (.Name r _) [e] [] _ => if r = "reversed" ∧ isGl sc r = true ∧ isStar e = false then some e else none
  | _ => none
def erEs (f : Expr → E) (es : List Expr) : Es := es.foldr (fun a r => Es.cons (f a) r) Es.nil
def erI (f : Expr → E) (sc : Scope) : Expr → Wk
  | .Call (.Name x p) es [] pos => if x = "range" ∧ isGl sc x = true ∧ es.any isStar = false ∧ (es.length = 1 ∨ es.length = 2 ∨ es.length = 3) then .rng (erEs f es) else (match revArg sc (.Call (.Name x p) es [] pos) with
    | some e => .rev (f e)
    | none => .seq (f (.Call (.Name x p) es [] pos)))
  | e => .seq (f e)
def erName (N : List Str) (sc : Scope) (x : Str) : E := if (x == ("__debug__" : Str)) || (x == ("__classdict__" : Str)) then .bad else match sc.names.lookup x with
  | some .local => (match ix x N 0 with | some i => .loc i | none => .bad)
  | some .cell => (match ix x N 0 with | some i => .loc i | none => .bad)
  | some .free => (match ix x N 0 with | some i => .loc i | none => .bad)
  | some .globalImplicit => .glo x
  | _ => .bad
def erBin (op : Operator) (a b : E) : E := match bop op with
  | some o => .bin o a b
  | none => .bad
def erCmp (s : Bool) (op : CmpOp) (a b : E) : E := if s then .bad else match cop op with
  | some o => .cmp o a b
  | none => .bad
def erChn (s : Bool) (o1 o2 : CmpOp) (a b c : E) : E := if s then .bad else match cop o1, cop o2 with
  | some p1, some p2 => .chain p1 p2 a b c
  | _, _ => .bad
def erTup (s : Bool) (es : Es) : E := if s then .bad else .tup es
def erLst (s : Bool) (es : Es) : E := if s then .bad else .lst es
def erFld (s : Bool) (o : E) (m : Str) : E := if s then .fld o m else .bad
/-- isinstance(a, T) -/
def tyBi (sc : Scope) (t : Expr) : Option TyN := match tyOf sc t with
  | some (.bi n) => some n
  | _ => none
def erIsi (f : Expr → E) (sc : Scope) (es : List Expr) : E := match es with
  | [a, .Tuple ts _ _] => (match ts.mapM (tyBi sc) with
    | some l => if ts.length < 100 then .isi (f a) (l.map .bi) false else .bad
    | none => .bad)
  | [a, t] => (match tyBi sc t with
    | some t => .isi (f a) [.bi t] true
    | none => .bad)
  | _ => .bad
def erCallN (f : Expr → E) (sc : Scope) (x : Str) (es : List Expr) : E := if es.any isStar then .bad else if isGl sc x = true then
    (if x = "isinstance" then erIsi f sc es
    else if x = "range" then .bad
    else if x = "dict" then (match es with
      | [e] => .dcp (f e)
      | _ => .bad)
    else if x = "list" then (match es with
      | [e] => (match revArg sc e with
        | some e => .bi .rev (.cons (f e) .nil)
        | none => .bi .list (.cons (f e) .nil))
      | _ => .bad)
    else match biOf x with
      | some b => .bi b (erEs f es)
      | none => if es.isEmpty then .bad else if upper x then .mk x (erEs f es) else .call x (erEs f es)) else .bad
def erCallA (f : Expr → E) (o : Expr) (m : Str) (ap cp : Pos) (es : List Expr) : E := if es.any isStar || !recvOk o || !(ap.endLine == cp.line) || decide (20 ≤ es.length) then .bad else (match bmOf m es.length with
  | some b => .bm b (f o) (erEs f es)
  | none => .meth (f o) m (erEs f es))
def erLc (s : Bool) (g : Option (List Nat × Bool)) (it : Wk) (cs : List E) (e : E) : E := if s then (match g, cs with
  | some (g, o), [] => .lc g o it none e
  | some (g, o), [c] => .lc g o it (some c) e
  | _, _ => .bad) else .bad
def erDict : List (Option Expr) → List Expr → E
  | [], [] => .dct .nil .nil
  | [some (.Constant (.str k) _ _)], [.Constant (.int i) _ _] => .dct (.cons (.str k) .nil) (.cons (.int i) .nil)
  | _, _ => .bad
def erE (N : List Str) : Nat → Scope → Expr → E
  | 0, _, _ => .bad
  | f + 1, sc, e => match e with
    | .Constant (.int i) _ _ => .int i
    | .Constant (.bool b) _ _ => .bl b
    | .Constant .none _ _ => .non
    | .Constant (.str s) _ _ => .str s
    | .Name x _ => erName N sc x
    | .BinOp a op b _ => erBin op (erE N f sc a) (erE N f sc b)
    | .UnaryOp .USub a _ => .neg (erE N f sc a)
    | .UnaryOp .Not a _ => .not (erE N f sc a)
    | .BoolOp _ [a] _ => erE N f sc a
    | .BoolOp .And (a :: b :: r) p => .and (erE N f sc a) (erE N f sc (.BoolOp .And (b :: r) p))
    | .BoolOp .Or (a :: b :: r) p => .or (erE N f sc a) (erE N f sc (.BoolOp .Or (b :: r) p))
    | .Compare a [op] [b] _ => erCmp (isSet b) op (erE N f sc a) (erE N f sc b)
    | .Compare a [o1, o2] [b, c] _ => erChn (isSet b || isSet c) o1 o2 (erE N f sc a) (erE N f sc b) (erE N f sc c)
    | .Tuple es _ _ => erTup (es.any isStar || decide (100 ≤ es.length)) (erEs (erE N f sc) es)
    | .List es _ => erLst (es.any isStar || decide (100 ≤ es.length)) (erEs (erE N f sc) es)
    | .Dict ks vs _ => erDict ks vs
    | .Subscript a (.Slice lo hi none _) _ => .sl (erE N f sc a) (lo.map (erE N f sc)) (hi.map (erE N f sc))
    | .Subscript _ (.Slice _ _ (some _) _) _ => .bad
    | .Subscript a b _ => .idx (erE N f sc a) (erE N f sc b)
    | .Attribute o m _ => erFld (recvOk o) (erE N f sc o) m
    | .Call (.Name x _) es [] _ => erCallN (erE N f sc) sc x es
    | .Call (.Attribute o m ap) es [] cp => erCallA (erE N f sc) o m ap cp es
    | .ListComp elt [⟨tg, it, ifs, 0⟩] cs _ => erLc (L2.blkC N sc cs (ownOf N cs) && ownIs (ownOf N cs) ((tgOf N cs tg).getD ([], true)).1 && !isSet it) (tgOf N cs tg) (erI (erE N f sc) sc it) (ifs.map (erE N f cs)) (erE N f cs elt)
    | _ => .bad
def isLc : Expr → Bool
  | .ListComp .. => true
  | .SetComp .. => true
  | .DictComp .. => true
  | _ => false
def isTup : Expr → Bool
  | .Tuple .. => true
  | _ => false
/-- name = [..]: the store is within the comprehension's frame -/
def swOk (sc : Scope) (y : Str) (py : Pos) : Expr → Bool
  | .ListComp _ _ cs pos => (match sc.names.lookup y with | some .local => true | _ => false) && ((py.line == pos.line) && !(cs.names.any fun (n, k) => n == y && (k == .local || k == .cell)))
  | e => !isLc e
def sSeq (f : Stmt → S) (ss : List Stmt) : S := ss.foldr (fun a r => S.seq (f a) r) S.nop
def sAsg (ok : Bool) (i : Option Nat) (e : E) : S := if ok then (match i with
  | some i => .asg i e
  | none => .bad) else .bad
def sUnp (no : Bool) (g : Option (List Nat × Bool)) (e : E) : S := if no then .bad else match g with
  | some (g, false) => .unp g e
  | _ => .bad
def sFor (no : Bool) (g : Option (List Nat × Bool)) (it : Wk) (b : S) : S := if no then .bad else match g with
  | some (g, o) => .loop g o it b
  | none => .bad
def sAug (i : Option Nat) (op : Option BOp) (e : E) : S := match i, op with
  | some i, some .add => .aug i .add e
  | some i, some .sub => .aug i .sub e
  | _, _ => .bad
def isSlice : Expr → Bool
  | .Slice .. => true
  | _ => false
def erS (N : List Str) (d : Nat) : Nat → Scope → Stmt → S
  | 0, _, _ => .bad
  | f + 1, sc, st => match st with
    | .Pass _ => .nop
    | .Expr e _ => if isLc e then .bad else .expr (erE N d sc e)
    | .Return (some e) _ => .ret (erE N d sc e)
    | .Return none _ => .retN
    | .If c a b _ => .ifs (erE N d sc c) (sSeq (erS N d f sc) a) (sSeq (erS N d f sc) b)
    | .While c b [] _ => .whl (erE N d sc c) (sSeq (erS N d f sc) b)
    | .For tg it b [] _ => sFor (isSet it) (tgOf N sc tg) (erI (erE N d sc) sc it) (sSeq (erS N d f sc) b)
    | .Assign [.Name y py] e _ => sAsg (swOk sc y py e) (slotOf N sc y) (erE N d sc e)
    | .Assign [.Tuple ts k p] e _ => sUnp (isLc e || isTup e) (tgOf N sc (.Tuple ts k p)) (erE N d sc e)
    | .Assign [.Subscript o i _] e _ => if isSlice i then .bad else .setI (erE N d sc o) (erE N d sc i) (erE N d sc e)
    | .Assign [.Attribute o m _] e _ => .setF (erE N d sc o) m (erE N d sc e)
    | .AugAssign (.Name y _) op e _ => sAug (slotOf N sc y) (bop op) (erE N d sc e)
    | .Raise (some (.Call (.Name c _) [.Constant (.str _) _ _] [] _)) none _ => if isGl sc c then .raiseT c else .bad
    | _ => .bad

/-! ### values, the store, results -/
inductive D where
  | non | bl (b : Bool) | int (i : Int) | str (s : Str) | ref (n : Nat) | tup (ds : List D)
  /-- a list that nobody writes: by value -/
  | ro (ds : List D)
inductive Cell where
  | lst (ds : List D)
  | ins (c : Str) (fs : List (Str × D))
  /-- a dict, walked (and so not to be written) or not -/
  | dic (lk : Bool) (kvs : List (L2.Key × D))
abbrev Store := List Cell
abbrev Env := List (Option D)
/-- an expression's value: a value that may be held, or a new list that nothing holds yet -/
inductive Ev where
  | v (d : D)
  | t (ds : List D)
inductive R (α : Type) where
  | ok (a : α) (st : Store)
  | ex (c : Str) (fs : List (Str × D)) (st : Store)
  | stuck
inductive Out where
  | nx (env : Env) (st : Store)
  | rt (r : Ev) (st : Store)
  | ex (c : Str) (fs : List (Str × D)) (env : Env) (st : Store)
  | stuck
def R.bind {α β : Type} (r : R α) (f : α → Store → R β) : R β := match r with
  | .ok a st => f a st
  | .ex c fs st => .ex c fs st
  | .stuck => .stuck
def R.out {α : Type} (r : R α) (env : Env) (f : α → Store → Out) : Out := match r with
  | .ok a st => f a st
  | .ex c fs st => .ex c fs env st
  | .stuck => .stuck
def Out.bind (r : Out) (f : Env → Store → Out) : Out := match r with
  | .nx env st => f env st
  | .rt v st => .rt v st
  | .ex c fs env st => .ex c fs env st
  | .stuck => .stuck
/-- a new list gets its place -/
def mat : Ev → Store → D × Store
  | .v d, st => (d, st)
  | .t ds, st => (.ref st.length, st ++ [.lst ds])
def mats : List Ev → Store → List D × Store
  | [], st => ([], st)
  | e :: es, st => let p := mat e st; let q := mats es p.2; (p.1 :: q.1, q.2)
/-- what a value that is a list or a tuple holds -/
def items (st : Store) : Ev → Option (List D)
  | .t ds => some ds
  | .v (.tup ds) => some ds
  | .v (.ro ds) => some ds
  | .v (.ref n) => (match st[n]? with
    | some (.lst ds) => some ds
    | _ => none)
  | _ => none
def lim : Nat := 1000000
def atD (ds : List D) (i : Int) : Option D := L2.atI ds i
abbrev Key := Str × Option Str
structure Fn where
  np : Nat
  ns : Nat
  dfl : List D
  body : S
structure Prog where
  fns : List (Key × Fn)
  consts : List (Str × D) := []
  excs : List Str := []
abbrev Go := Fn → List D → Store → R Ev
/-- may so many values be handed in? -/
def Fn.takes (f : Fn) (n : Nat) : Bool := decide (n ≤ f.np) && decide (f.np ≤ n + f.dfl.length)
/-- the defaults fill up -/
def Fn.full (f : Fn) (ds : List D) : List D := ds ++ f.dfl.drop (ds.length + f.dfl.length - f.np)

/-- the attributes of the program's classes -/
def flds : List (Str × Str) := [(("Pattern" : Str), ("week" : Str)), (("Pattern" : Str), ("yearly" : Str)), (("Pattern" : Str), ("short" : Str)), (("Pattern" : Str), ("extra" : Str)), (("Pattern" : Str), ("round" : Str)), (("Table" : Str), ("pattern" : Str)), (("Table" : Str), ("rows" : Str)), (("Rule" : Str), ("name" : Str)), (("Rule" : Str), ("who" : Str)), (("Rule" : Str), ("owes" : Str)), (("Rule" : Str), ("opens" : Str)), (("Rule" : Str), ("base" : Str)), (("Rule" : Str), ("many" : Str)), (("Rule" : Str), ("unit" : Str)), (("Rule" : Str), ("ends" : Str)), (("Rule" : Str), ("anew" : Str)), (("Rule" : Str), ("longer" : Str)), (("Rule" : Str), ("still" : Str)), (("Rule" : Str), ("yields" : Str)), (("Book" : Str), ("in_turn" : Str)), (("Book" : Str), ("told" : Str)), (("Counting" : Str), ("table" : Str)), (("Weeks" : Str), ("table" : Str)), (("CourtDays" : Str), ("table" : Str)), (("Run" : Str), ("rule" : Str)), (("Run" : Str), ("counting" : Str)), (("Run" : Str), ("act" : Str)), (("Run" : Str), ("begin" : Str)), (("Run" : Str), ("base" : Str)), (("Run" : Str), ("units" : Str)), (("Run" : Str), ("pauses" : Str)), (("Run" : Str), ("used" : Str)), (("Run" : Str), ("over" : Str)), (("Run" : Str), ("rows" : Str)), (("Run" : Str), ("known" : Str)), (("Docket" : Str), ("book" : Str)), (("Docket" : Str), ("table" : Str)), (("Docket" : Str), ("first" : Str)), (("Docket" : Str), ("held" : Str)), (("Docket" : Str), ("now" : Str)), (("Desk" : Str), ("book" : Str)), (("Desk" : Str), ("days" : Str)), (("Desk" : Str), ("docket" : Str)), (("DayWalk" : Str), ("rule" : Str)), (("DayWalk" : Str), ("table" : Str)), (("DayWalk" : Str), ("start" : Str)), (("DayWalk" : Str), ("units" : Str)), (("DayWalk" : Str), ("pauses" : Str)), (("DayWalk" : Str), ("used" : Str)), (("DayWalk" : Str), ("met" : Str)), (("DayWalk" : Str), ("last" : Str)), (("DayWalk" : Str), ("rows" : Str))]
/-! ### operations -/
def small (i : Int) : Bool := decide (-(2 ^ 64) < i) && decide (i < 2 ^ 64)
/-- an int of less than 1000 bits -/
def bigOk (i : Int) : Bool := decide (i.natAbs < 2 ^ 1000)
/-- the list that may be written to -/
def lstW (st : Store) : Ev → Option (List D)
  | .t ds => some ds
  | .v (.ref n) => (match st[n]? with
    | some (.lst ds) => some ds
    | _ => none)
  | _ => none
def catD (x y : Ev) (st : Store) : Option Ev := match lstW st x, lstW st y with
  | some xs, some ys => if xs.length + ys.length < lim then some (.t (xs ++ ys)) else none
  | _, _ => none
/-! dicts -/
def dkey : D → Option L2.Key
  | .int i => some (.inl i)
  | .str s => some (.inr s)
  | _ => none
def unkey : L2.Key → D
  | .inl i => .int i
  | .inr s => .str s
def dGet (kvs : List (L2.Key × D)) (k : L2.Key) : Option D := (kvs.find? fun kv => decide (kv.1 = k)).map (·.2)
def dPut (kvs : List (L2.Key × D)) (k : L2.Key) (v : D) : List (L2.Key × D) :=
  if (kvs.any fun kv => decide (kv.1 = k)) = true then kvs.map (fun kv => if kv.1 = k then (kv.1, v) else kv) else kvs ++ [(k, v)]
def dDrop (kvs : List (L2.Key × D)) (k : L2.Key) : List (L2.Key × D) := kvs.filter fun kv => decide (kv.1 ≠ k)
/-- the dict that a value is, to be read -/
def dicE (st : Store) : Ev → Option (List (L2.Key × D))
  | .v (.ref n) => (match st[n]? with
    | some (.dic _ kvs) => some kvs
    | _ => none)
  | _ => none
/-- .. that may be written -/
def dicW (st : Store) : Ev → Option (List (L2.Key × D))
  | .v (.ref n) => (match st[n]? with
    | some (.dic false kvs) => some kvs
    | _ => none)
  | _ => none
def binD (op : BOp) (a b : Ev) (st : Store) : Option Ev := match op, a, b with
  | .add, .v (.int i), .v (.int j) => some (.v (.int (i + j)))
  | .add, .v (.str x), .v (.str y) => if x.length + y.length < lim then some (.v (.str (x ++ y))) else none
  | .add, .v (.tup xs), .v (.tup ys) => if xs.length + ys.length < lim then some (.v (.tup (xs ++ ys))) else none
  | .add, x, y => catD x y st
  | .sub, .v (.int i), .v (.int j) => some (.v (.int (i - j)))
  | .mul, .v (.int i), .v (.int j) => if (small i || small j) || (bigOk i && bigOk j) then some (.v (.int (i * j))) else none
  | .fdiv, .v (.int i), .v (.int j) => if 0 < j ∧ bigOk j = true then some (.v (.int (i / j))) else none
  | .mod, .v (.int i), .v (.int j) => if 0 < j then some (.v (.int (i % j))) else none
  | .pow, .v (.int i), .v (.int j) => if 0 ≤ j ∧ j ≤ 1000000 ∧ i.natAbs < 2 ^ 64 then some (.v (.int (i ^ j.toNat))) else none
  | .shr, .v (.int i), .v (.int j) => if 0 ≤ j then some (.v (.int (i / 2 ^ j.toNat))) else none
  | .band, .v (.int i), .v (.int j) => some (.v (.int (Builtin.bitAnd i j)))
  | _, _, _ => none
/-- == of two plain things -/
def eqS : D → D → Option Bool
  | .non, .non => some true
  | .non, .int _ => some false
  | .non, .bl _ => some false
  | .non, .str _ => some false
  | .int _, .non => some false
  | .bl _, .non => some false
  | .str _, .non => some false
  | .int i, .int j => some (decide (i = j))
  | .bl i, .bl j => some (decide (i = j))
  | .str i, .str j => some (decide (i = j))
  | .int _, .str _ => some false
  | .str _, .int _ => some false
  | .bl _, .str _ => some false
  | .str _, .bl _ => some false
  | _, _ => none
/-- data: what == may be asked of, n deep -/
def isP : Nat → Store → D → Bool
  | _, _, .non => true
  | _, _, .bl _ => true
  | _, _, .int _ => true
  | _, _, .str s => PyData.strOk s
  | 0, _, _ => false
  | n + 1, st, .tup ds => ds.all (isP n st)
  | n + 1, st, .ro ds => ds.all (isP n st)
  | n + 1, st, .ref k => (match st[k]? with
    | some (.lst ds) => ds.all (isP n st)
    | _ => false)
/-- the list that a value is -/
def lstE (st : Store) : Ev → Option (List D)
  | .t ds => some ds
  | .v (.ro ds) => some ds
  | .v (.ref n) => items st (.v (.ref n))
  | _ => none
def eqs (f : D → D → Bool) : List D → List D → Bool
  | [], [] => true
  | a :: as, b :: bs => f a b && eqs f as bs
  | _, _ => false
def eqB : Nat → Store → D → D → Bool
  | _, _, .non, .non => true
  | _, _, .bl a, .bl b => a == b
  | _, _, .bl a, .int j => (if a then 1 else 0) == j
  | _, _, .int i, .bl b => i == (if b then 1 else 0)
  | _, _, .int i, .int j => i == j
  | _, _, .str x, .str y => x == y
  | n + 1, st, .tup as, .tup bs => eqs (eqB n st) as bs
  | n + 1, st, a, b => (match lstE st (.v a), lstE st (.v b) with
    | some as, some bs => eqs (eqB n st) as bs
    | _, _ => false)
  | _, _, _, _ => false
def isPE (st : Store) : Ev → Bool
  | .v d => isP 50 st d
  | .t ds => ds.all (isP 49 st)
def eqE (x y : Ev) (st : Store) : Option Bool :=
  match (match x, y with | .v a, .v b => eqS a b | _, _ => none) with
  | some c => some c
  | none => if isPE st x && isPE st y then (match lstE st x, lstE st y with
      | some as, some bs => some (eqs (eqB 49 st) as bs)
      | none, none => (match x, y with | .v a, .v b => some (eqB 50 st a b) | _, _ => none)
      | _, _ => some false) else none
/-- the whole numbers that a tuple holds -/
def intsOf : List D → Option (List Int)
  | [] => some []
  | .int i :: r => (intsOf r).map (i :: ·)
  | _ => none
/-- order by the first unequal pair -/
def ordT (rel : Int → Int → Bool) (z : Nat → Nat → Bool) : List Int → List Int → Bool
  | x :: xs, y :: ys => if x = y then ordT rel z xs ys else rel x y
  | xs, ys => z xs.length ys.length
def ordD (rel : Int → Int → Bool) (z : Nat → Nat → Bool) (xs ys : List D) : Option Bool := match intsOf xs, intsOf ys with
  | some ns, some ms => some (ordT rel z ns ms)
  | _, _ => none
/-- things without parts -/
def flatD : D → Bool
  | .non => true
  | .bl _ => true
  | .int _ => true
  | .str _ => true
  | _ => false
/-- x in .. of items -/
def memD (st : Store) (y : Ev) (d : D) (ds : List D) : Option Bool :=
  if flatD d && ds.all flatD then some (ds.any fun z => eqB 0 st z d)
  else if (lstE st y).isSome && (isP 49 st d && ds.all (isP 49 st)) then some (ds.any fun z => eqB 49 st z d) else none
def inD (x y : Ev) (st : Store) : Option Bool := match x, y with
  | .v (.str a), .v (.str z) => (match a.cps.toList with
    | [c] => some (decide (c ∈ z.cps.toList))
    | _ => none)
  | .v d, y => (match dicE st y with
    | some kvs => (match d with
      | .non => some false
      | d => (dkey d).map fun k => (dGet kvs k).isSome)
    | none => (match items st y with
      | some ds => memD st y d ds
      | none => none))
  | _, _ => none
/-- texts' order, by their signs -/
def ltS (x y : Str) : Bool := decide (x.cps.toList < y.cps.toList)
def cmpD (op : COp) (a b : Ev) (st : Store) : Option Bool := match op, a, b with
  | .eq, x, y => eqE x y st
  | .ne, x, y => (eqE x y st).map not
  | .lt, .v (.int i), .v (.int j) => some (decide (i < j))
  | .lt, .v (.tup xs), .v (.tup ys) => ordD (fun i j => decide (i < j)) (fun i j => decide (i < j)) xs ys
  | .le, .v (.int i), .v (.int j) => some (decide (i ≤ j))
  | .le, .v (.tup xs), .v (.tup ys) => ordD (fun i j => decide (i ≤ j)) (fun i j => decide (i ≤ j)) xs ys
  | .gt, .v (.int i), .v (.int j) => some (decide (j < i))
  | .gt, .v (.tup xs), .v (.tup ys) => ordD (fun i j => decide (j < i)) (fun i j => decide (j < i)) xs ys
  | .ge, .v (.int i), .v (.int j) => some (decide (j ≤ i))
  | .ge, .v (.tup xs), .v (.tup ys) => ordD (fun i j => decide (j ≤ i)) (fun i j => decide (j ≤ i)) xs ys
  | .lt, .v (.str x), .v (.str y) => some (ltS x y)
  | .le, .v (.str x), .v (.str y) => some (!ltS y x)
  | .gt, .v (.str x), .v (.str y) => some (ltS y x)
  | .ge, .v (.str x), .v (.str y) => some (!ltS x y)
  | .isin, x, y => inD x y st
  | .notin, x, y => (inD x y st).map not
  | .is, .v .non, .v .non => some true
  | .is, _, .v .non => some false
  | .isnot, .v .non, .v .non => some false
  | .isnot, _, .v .non => some true
  | _, _, _ => none
def bLen (es : List Ev) (st : Store) : Option Ev := match es with
  | [.v (.str s)] => if s.length < lim then some (.v (.int s.length)) else none
  | [e] => (match dicE st e with
    | some kvs => some (.v (.int kvs.length))
    | none => (items st e).map fun ds => .v (.int ds.length))
  | _ => none
def bInt (es : List Ev) : Option Ev := match es with
  | [.v (.int i)] => some (.v (.int i))
  | [.v (.bl c)] => some (.v (.int (if c then 1 else 0)))
  | [.v (.str s)] => if s.length ≤ 640 then (PySem.intText? s).map fun i => .v (.int i) else none
  | _ => none
def bStr (es : List Ev) : Option Ev := match es with
  | [.v (.int i)] => if i.natAbs.log2 < 1920 then some (.v (.str (toString i))) else none
  | [.v (.str s)] => some (.v (.str s))
  | _ => none
def bDm (es : List Ev) : Option Ev := match es with
  | [.v (.int i), .v (.int j)] => if 0 < j ∧ j < 1073741824 then some (.v (.tup [.int (i / j), .int (i % j)])) else none
  | _ => none
/-- the greatest of whole numbers -/
def maxL : List Int → Option Int
  | [] => none
  | i :: r => some (r.foldl max i)
def bMax (es : List Ev) (st : Store) : Option Ev := match es with
  | [.v (.int i), .v (.int j)] => some (.v (.int (if j > i then j else i)))
  | [e] => (lstE st e).bind fun ds => (intsOf ds).bind fun ns => (maxL ns).map fun i => .v (.int i)
  | _ => none
def bMin (es : List Ev) : Option Ev := match es with
  | [.v (.int i), .v (.int j)] => some (.v (.int (if j < i then j else i)))
  | _ => none
def bList (es : List Ev) (st : Store) : Option Ev := match es with
  | [e] => (match dicE st e with
    | some kvs => some (.t (kvs.map fun kv => unkey kv.1))
    | none => (items st e).map .t)
  | _ => none
def bTuple (es : List Ev) (st : Store) : Option Ev := match es with
  | [e] => (items st e).map fun ds => .v (.tup ds)
  | _ => none
def bRev (es : List Ev) (st : Store) : Option Ev := match es with
  | [e] => (lstE st e).map fun ds => .t ds.reverse
  | _ => none
def blsOf : List D → Option (List Bool)
  | [] => some []
  | .bl i :: r => (blsOf r).map (i :: ·)
  | _ => none
def bAll (es : List Ev) (st : Store) : Option Ev := match es with
  | [e] => (lstE st e).bind fun ds => (blsOf ds).map fun bs => .v (.bl (bs.all id))
  | _ => none
/-! sorted: what stands in an item, piece by piece, and the order by it -/
abbrev Pc := Int ⊕ Str
def ltPc : Pc → Pc → Bool
  | .inl i, .inl j => decide (i < j)
  | .inr x, .inr y => ltS x y
  | .inl _, .inr _ => true
  | .inr _, .inl _ => false
def ltPs : List Pc → List Pc → Bool
  | x :: xs, y :: ys => if x = y then ltPs xs ys else ltPc x y
  | [], _ :: _ => true
  | _, _ => false
def pcOf : D → Option Pc
  | .int i => some (.inl i)
  | .str s => some (.inr s)
  | _ => none
def pcsOf : List D → Option (List Pc)
  | [] => some []
  | d :: r => (pcOf d).bind fun p => (pcsOf r).map (p :: ·)
def srtKey : D → List Pc
  | .tup ds => (pcsOf ds).getD []
  | d => ((pcOf d).map fun p => [p]).getD []
def ltSrt (x y : D) : Bool := ltPs (srtKey x) (srtKey y)
def insBy {α : Type} (lt : α → α → Bool) (x : α) : List α → List α
  | [] => [x]
  | y :: ys => if lt y x then y :: insBy lt x ys else x :: y :: ys
def sortBy {α : Type} (lt : α → α → Bool) : List α → List α
  | [] => []
  | x :: xs => insBy lt x (sortBy lt xs)
/-- the shape of an item: true for a text; none: it is not served -/
def pcSh : Pc → Bool
  | .inl _ => false
  | .inr _ => true
def tupSh : D → Option (List Bool)
  | .tup ds => (pcsOf ds).map (·.map pcSh)
  | _ => none
/-- all are whole numbers, all are texts, or all are tuples of one shape that begin with a whole number -/
def srtOk (ds : List D) : Bool := (ds.all fun d => match d with | .int _ => true | _ => false) || ((decide (ds.length < 64) && ds.all fun d => match d with | .str _ => true | _ => false) || (match ds with
  | [] => true
  | d :: r => (match tupSh d with
    | some (false :: bs) => r.all fun e => decide (tupSh e = some (false :: bs))
    | _ => false)))
def bSorted (es : List Ev) (st : Store) : Option Ev := match es with
  | [e] => (lstE st e).bind fun ds => if srtOk ds then some (.t (sortBy ltSrt ds)) else none
  | _ => none
def biD (b : BI) (es : List Ev) (st : Store) : Option Ev := match b with
  | .len => bLen es st
  | .int => bInt es
  | .str => bStr es
  | .divmod => bDm es
  | .max => bMax es st
  | .min => bMin es
  | .list => bList es st
  | .tuple => bTuple es st
  | .sorted => bSorted es st
  | .all => bAll es st
  | .rev => bRev es st
def R.of {α : Type} (o : Option α) (st : Store) : R α := match o with
  | some a => .ok a st
  | none => .stuck
def bV (b : Bool) : Ev := .v (.bl b)
/-- a value's type -/
def tyD (e : Ev) (st : Store) : Option TyN := match e with
  | .t _ => some .list
  | .v .non => some .non
  | .v (.bl _) => some .bool
  | .v (.int _) => some .int
  | .v (.str _) => some .str
  | .v (.tup _) => some .tuple
  | .v (.ro _) => some .list
  | .v (.ref n) => (match st[n]? with
    | some (.lst _) => some .list
    | some (.dic false _) => some .dict
    | _ => none)
def isT (t n : TyN) : Bool := match t, n with
  | .bool, .int => true
  | t, n => decide (t = n)
def isi1 (t : TyN) : Ty → Option Bool
  | .bi n => if n = .non then none else some (isT t n)
  | .own _ => none
def isiD (t : TyN) : List Ty → Option Bool
  | [] => some false
  | y :: ys => (match isi1 t y, isiD t ys with
    | some a, some b => some (a || b)
    | _, _ => none)
/-- is the receiver of the method's type? -/
def isLst (o : Ev) (st : Store) : Bool := match o with
  | .t _ => true
  | .v (.ro _) => true
  | .v (.ref n) => (match st[n]? with
    | some (.lst _) => true
    | _ => false)
  | _ => false
def isStrE : Ev → Bool
  | .v (.str _) => true
  | _ => false
def bmRecv (m : BM) (o : Ev) (st : Store) : Bool := match m with
  | .split => isStrE o
  | .join => isStrE o
  | .find => isStrE o
  | .dpop => (dicW st o).isSome
  | .get => (dicW st o).isSome
  | _ => isLst o st
def bAppend (o : Ev) (es : List Ev) (st : Store) : R Ev := match o, es with
  | .v (.ref n), [e] => (match (mat e st).2[n]? with
    | some (.lst ds) => if ds.length < lim then .ok (.v .non) ((mat e st).2.set n (.lst (ds ++ [(mat e st).1]))) else .stuck
    | _ => .stuck)
  | _, _ => .stuck
def bInsert (o : Ev) (es : List Ev) (st : Store) : R Ev := match o, es with
  | .v (.ref n), [.v (.int i), e] => (match (mat e st).2[n]? with
    | some (.lst ds) => if ds.length < lim ∧ 0 ≤ i ∧ i < 2 ^ 63 then .ok (.v .non) ((mat e st).2.set n (.lst (ds.take i.toNat ++ [(mat e st).1] ++ ds.drop i.toNat))) else .stuck
    | _ => .stuck)
  | _, _ => .stuck
def bExtend (o : Ev) (es : List Ev) (st : Store) : R Ev := match o, es with
  | .v (.ref n), [e] => (match st[n]?, lstW st e with
    | some (.lst ds), some es => if ds.length + es.length < lim then .ok (.v .non) (st.set n (.lst (ds ++ es))) else .stuck
    | _, _ => .stuck)
  | _, _ => .stuck
def bReverse (o : Ev) (es : List Ev) (st : Store) : R Ev := match o, es with
  | .v (.ref n), [] => (match st[n]? with
    | some (.lst ds) => .ok (.v .non) (st.set n (.lst ds.reverse))
    | _ => .stuck)
  | _, _ => .stuck
def bClear (o : Ev) (es : List Ev) (st : Store) : R Ev := match o, es with
  | .v (.ref n), [] => (match st[n]? with
    | some (.lst _) => .ok (.v .non) (st.set n (.lst []))
    | _ => .stuck)
  | _, _ => .stuck
def bPop (o : Ev) (es : List Ev) (st : Store) : R Ev := match o, es with
  | .v (.ref n), [] => (match st[n]? with
    | some (.lst ds) => (match ds[ds.length - 1]? with
      | some d => .ok (.v d) (st.set n (.lst ds.dropLast))
      | none => .stuck)
    | _ => .stuck)
  | _, _ => .stuck
/-- the first place of an equal thing -/
def idxOf (f : D → Bool) : List D → Option Nat
  | [] => none
  | d :: ds => if f d then some 0 else (idxOf f ds).map (· + 1)
def bIndex (o : Ev) (es : List Ev) (st : Store) : R Ev := match es with
  | [.v d] => (match lstE st o with
    | some ds => if flatD d && ds.all flatD then (match idxOf (fun z => eqB 0 st z d) ds with
      | some k => .ok (.v (.int (k : Nat))) st
      | none => .stuck) else .stuck
    | none => .stuck)
  | _ => .stuck
def bCount (o : Ev) (es : List Ev) (st : Store) : R Ev := match es with
  | [.v d] => (match lstE st o with
    | some ds => if flatD d && ds.all flatD then .ok (.v (.int (ds.countP (fun z => eqB 0 st z d) : Nat))) st else .stuck
    | none => .stuck)
  | _ => .stuck
def strsOf : List D → Option (List Str)
  | [] => some []
  | .str i :: r => (strsOf r).map (i :: ·)
  | _ => none
def bJoin (o : Ev) (es : List Ev) (st : Store) : R Ev := match o, es with
  | .v (.str a), [e] => (match (items st e).bind strsOf with
    | some ys => if (ys.map (·.length)).sum + ys.length * a.length ≤ 16777216 then .ok (.v (.str (Txt.join a ys))) st else .stuck
    | none => .stuck)
  | _, _ => .stuck
def bSplit (o : Ev) (es : List Ev) (st : Store) : R Ev := match o, es with
  | .v (.str a), [.v (.str b)] => if (b.length == 0) = false ∧ a.length < lim then .ok (.t ((Txt.split a b).map .str)) st else .stuck
  | _, _ => .stuck
def bFind (o : Ev) (es : List Ev) (st : Store) : R Ev := match o, es with
  | .v (.str a), [.v (.str b)] => .ok (.v (.int (Txt.find a b))) st
  | _, _ => .stuck
def bDpop (o : Ev) (es : List Ev) (st : Store) : R Ev := match o, es with
  | .v (.ref n), [.v k] => (match st[n]?, dkey k with
    | some (.dic false kvs), some k => (match dGet kvs k with
      | some d => .ok (.v d) (st.set n (.dic false (dDrop kvs k)))
      | none => .stuck)
    | _, _ => .stuck)
  | _, _ => .stuck
def bGet (o : Ev) (es : List Ev) (st : Store) : R Ev := match es with
  | [.v k, e] => (match dicE st o, dkey k with
    | some kvs, some k => (match dGet kvs k with
      | some d => .ok (.v d) st
      | none => .ok e st)
    | _, _ => .stuck)
  | _ => .stuck
def bmD (m : BM) (o : Ev) (es : List Ev) (st : Store) : R Ev := match m with
  | .append => bAppend o es st
  | .clear => bClear o es st
  | .extend => bExtend o es st
  | .reverse => bReverse o es st
  | .insert => bInsert o es st
  | .pop => bPop o es st
  | .index => bIndex o es st
  | .count => bCount o es st
  | .split => bSplit o es st
  | .join => bJoin o es st
  | .find => bFind o es st
  | .dpop => bDpop o es st
  | .get => bGet o es st
def slD (ds : List D) (lo hi : Option Int) : List D := (ds.drop (HT.sIx ds.length 0 lo)).take (HT.sIx ds.length ds.length hi - HT.sIx ds.length 0 lo)
/-- truth -/
def truD (e : Ev) (st : Store) : Option Bool := match e with
  | .v .non => some false
  | .v (.bl b) => some b
  | .v (.int i) => some (i != 0)
  | .v (.str s) => if s.length < lim then some (s.length != 0) else none
  | e => (items st e).map fun ds => !ds.isEmpty
/-- a text's signs -/
def signs (s : Str) : List D := s.cps.toList.map fun c => .str ⟨#[c]⟩
/-- x[i] -/
def idxD (x y : Ev) (st : Store) : Option D := match x, y with
  | .v (.str s), .v (.int i) => if s.length < lim then (L2.atI s.cps.toList i).map fun c => .str ⟨#[c]⟩ else none
  | x, .v k => (match dicE st x with
    | some kvs => (dkey k).bind (dGet kvs)
    | none => (match items st x, k with
      | some ds, .int i => atD ds i
      | _, _ => none))
  | _, _ => none
/-- x[i:j] -/
def slE (x : Ev) (i j : Option Int) (st : Store) : Option Ev := match x with
  | .v (.str s) => if s.length < lim then some (.v (.str (L2.cutS s i j))) else none
  | .v (.tup ds) => some (.v (.tup (slD ds i j)))
  | x => (lstE st x).map fun ds => .t (slD ds i j)
def putD (f : Str) (d : D) : List (Str × D) → List (Str × D)
  | [] => [(f, d)]
  | p :: r => if p.1 = f then (f, d) :: r else p :: putD f d r

/-! ### what is walked: the items as they stand at each turn -/
abbrev Cur := Store → Option (List D)
def setAll : List Nat → List D → Env → Option Env
  | [], [], env => some env
  | i :: is, d :: ds, env => setAll is ds (env.set i (some d))
  | _, _, _ => none
def bindG (g : List Nat) (one : Bool) (d : D) (env : Env) : Option Env := match one, g, d with
  | true, [i], d => some (env.set i (some d))
  | false, is, .tup ds => setAll is ds env
  | _, _, _ => none
/-- for: k turns at most, i the turn -/
def forGo (cur : Cur) (g : List Nat) (one : Bool) (body : Env → Store → Out) : Nat → Nat → Env → Store → Out
  | 0, i, env, st => (match cur st with
    | some ds => if ds.length ≤ i then .nx env st else .stuck
    | none => .stuck)
  | k + 1, i, env, st => (match cur st with
    | some ds => (match ds[i]? with
      | none => .nx env st
      | some d => (match bindG g one d env with
        | some env' => (body env' st).bind fun e s => forGo cur g one body k (i + 1) e s
        | none => .stuck))
    | none => .stuck)
/-- [.. for ..]: one's own items, the list so far -/
def lcGo (cur : Cur) (f : D → Store → R (Option D)) : Nat → Nat → List D → Store → R (List D)
  | 0, i, acc, st => (match cur st with
    | some ds => if ds.length ≤ i then .ok acc st else .stuck
    | none => .stuck)
  | k + 1, i, acc, st => (match cur st with
    | some ds => (match ds[i]? with
      | none => .ok acc st
      | some d => (match f d st with
        | .ok (some y) st' => if acc.length < lim then lcGo cur f k (i + 1) (acc ++ [y]) st' else .stuck
        | .ok none st' => lcGo cur f k (i + 1) acc st'
        | _ => .stuck))
    | none => .stuck)
def whGo (c : Env → Store → R Bool) (body : Env → Store → Out) : Nat → Env → Store → Out
  | 0, _, _ => .stuck
  | k + 1, env, st => (c env st).out env fun b st1 => if b then (body env st1).bind fun e s => whGo c body k e s else .nx env st1
def rngL (lo hi : Int) : List D := (List.range (hi - lo).toNat).map fun (i : Nat) => D.int (lo + (i : Int))
def rngOk (i : Int) : Bool := decide (-(2 ^ 62) ≤ i) && decide (i < 2 ^ 62)
/-- what a value is walked as -/
def curOf (e : Ev) (st : Store) : Option Cur := match e with
  | .t ds => some fun _ => some ds
  | .v (.tup ds) => some fun _ => some ds
  | .v (.ro ds) => some fun _ => some ds
  | .v (.str s) => some fun _ => some (signs s)
  | .v (.ref n) => (match st[n]? with
    | some (.lst _) => some fun s => items s (.v (.ref n))
    | _ => none)
  | _ => none
/-- reversed: while the list is as long as it was -/
def curRev (e : Ev) (st : Store) : Option Cur := match lstE st e with
  | some ds => some fun s => (match e with
    | .v (.ref n) => (items s (.v (.ref n))).bind fun es => if es.length = ds.length then some es.reverse else none
    | _ => some ds.reverse)
  | none => none
/-- range with a step -/
def rngC (lo c : Int) (n : Nat) : List D := (List.range n).map fun (i : Nat) => D.int (lo + (i : Int) * c)
def rgcOk (i j c : Int) : Bool := decide (c ≠ 0) && (decide (c.natAbs < 1073741824) && (Builtin.Range.small i j c && decide (0 ≤ Builtin.Range.rangeSize i j c)))
def curRng (es : List Ev) : Option Cur := match es with
  | [.v (.int j)] => if rngOk j then some fun _ => some (rngL 0 j) else none
  | [.v (.int i), .v (.int j)] => if rngOk i && rngOk j then some fun _ => some (rngL i j) else none
  | [.v (.int i), .v (.int j), .v (.int c)] => if rgcOk i j c then some fun _ => some (rngC i c (Builtin.Range.rangeSize i j c).toNat) else none
  | _ => none
def turns (cur : Cur) (st : Store) : Nat := match cur st with
  | some ds => ds.length
  | none => 0
def loopFuel : Nat := 1000000
def asV (e : Ev) (st : Store) : R D := let p := mat e st; .ok p.1 p.2

def esLen : Es → Nat
  | .nil => 0
  | .cons _ r => esLen r + 1
def nInit : Str := "__init__"
mutual
def evE (P : Prog) (go : Go) : E → Env → Store → R Ev
  | .int i, _, st => .ok (.v (.int i)) st
  | .bl b, _, st => .ok (.v (.bl b)) st
  | .non, _, st => .ok (.v .non) st
  | .str s, _, st => .ok (.v (.str s)) st
  | .loc i, env, st => (match env[i]? with
    | some (some d) => .ok (.v d) st
    | _ => .stuck)
  | .glo x, _, st => (match P.consts.lookup x with
    | some d => .ok (.v d) st
    | none => .stuck)
  | .bin op a b, env, st => (evE P go a env st).bind fun x st1 => (evE P go b env st1).bind fun y st2 => R.of (binD op x y st2) st2
  | .neg a, env, st => (evE P go a env st).bind fun x st1 => (match x with
    | .v (.int i) => .ok (.v (.int (-i))) st1
    | _ => .stuck)
  | .not a, env, st => (evE P go a env st).bind fun x st1 => (match x with
    | .v (.bl c) => .ok (.v (.bl (!c))) st1
    | _ => .stuck)
  | .and a b, env, st => (evE P go a env st).bind fun x st1 => (match x with
    | .v (.bl c) => if c then evE P go b env st1 else .ok (.v (.bl false)) st1
    | _ => .stuck)
  | .or a b, env, st => (evE P go a env st).bind fun x st1 => (match x with
    | .v (.bl c) => if c then .ok (.v (.bl true)) st1 else evE P go b env st1
    | _ => .stuck)
  | .cmp op a b, env, st => (evE P go a env st).bind fun x st1 => (evE P go b env st1).bind fun y st2 => R.of ((cmpD op x y st2).map bV) st2
  | .chain o1 o2 a b c, env, st => (evE P go a env st).bind fun x st1 => (evE P go b env st1).bind fun y st2 => (match cmpD o1 x y st2 with
    | some k => if k then (evE P go c env st2).bind fun z st3 => R.of ((cmpD o2 y z st3).map bV) st3 else .ok (bV false) st2
    | none => .stuck)
  | .tup es, env, st => (evEs P go es env st).bind fun xs st1 => .ok (.v (.tup (mats xs st1).1)) (mats xs st1).2
  | .lst es, env, st => (evEs P go es env st).bind fun xs st1 => .ok (.t (mats xs st1).1) (mats xs st1).2
  | .idx a i, env, st => (evE P go a env st).bind fun x st1 => (evE P go i env st1).bind fun y st2 => R.of ((idxD x y st2).map .v) st2
  | .sl a lo hi, env, st => (evE P go a env st).bind fun x st1 => (evO P go lo env st1).bind fun i st2 => (evO P go hi env st2).bind fun j st3 => R.of (slE x i j st3) st3
  | .dct ks vs, env, st => (match ks, vs with
    | .nil, .nil => .ok (.v (.ref st.length)) (st ++ [.dic false []])
    | .cons (.str k) .nil, .cons (.int i) .nil => .ok (.v (.ref st.length)) (st ++ [.dic false [(.inr k, .int i)]])
    | _, _ => .stuck)
  | .dcp e, env, st => (evE P go e env st).bind fun x st1 => (match dicE st1 x with
    | some kvs => .ok (.v (.ref st1.length)) (st1 ++ [.dic false kvs])
    | none => .stuck)
  | .bi b es, env, st => (evEs P go es env st).bind fun xs st1 => R.of (biD b xs st1) st1
  | .isi a ts _, env, st => (evE P go a env st).bind fun x st1 => (match tyD x st1 with
    | some t => R.of ((isiD t ts).map bV) st1
    | none => .stuck)
  | .call f es, env, st => (match P.fns.lookup (f, none) with
    | some fn => if fn.takes (esLen es) then (evEs P go es env st).bind fun xs st1 => go fn (fn.full (mats xs st1).1) (mats xs st1).2 else .stuck
    | none => .stuck)
  | .mk c es, env, st => (match P.fns.lookup (c, some nInit) with
    | some fn => if fn.takes (esLen es + 1) then (evEs P go es env st).bind fun xs st1 =>
      (match go fn (fn.full (.ref (mats xs st1).2.length :: (mats xs st1).1)) ((mats xs st1).2 ++ [.ins c []]) with
        | .ok (.v .non) st3 => .ok (.v (.ref (mats xs st1).2.length)) st3
        | .ex c fs st3 => .ex c fs st3
        | _ => .stuck) else .stuck
    | none => .stuck)
  | .bm m o es, env, st => (evE P go o env st).bind fun x st1 => if bmRecv m x st1 then (evEs P go es env st1).bind fun xs st2 => bmD m x xs st2 else .stuck
  | .meth o m es, env, st => (evE P go o env st).bind fun x st1 => (match x with
    | .v (.ref n) => (match st1[n]? with
      | some (.ins c fs) => (match P.fns.lookup (c, some m), fs.lookup m with
        | some fn, none => if fn.takes (esLen es + 1) then (evEs P go es env st1).bind fun xs st2 => go fn (fn.full (.ref n :: (mats xs st2).1)) (mats xs st2).2 else .stuck
        | _, _ => .stuck)
      | _ => .stuck)
    | _ => .stuck)
  | .fld o f, env, st => (evE P go o env st).bind fun x st1 => (match x with
    | .v (.ref n) => (match st1[n]? with
      | some (.ins c fs) => if flds.contains (c, f) then (match fs.lookup f with
        | some d => .ok (.v d) st1
        | none => .stuck) else .stuck
      | _ => .stuck)
    | _ => .stuck)
  | .lc g one it c e, env, st => (evI P go it env st).bind fun cur st1 =>
    (lcGo cur (fun d s => match bindG g one d env with
      | none => .stuck
      | some env' => (match c with
        | none => (evE P go e env' s).bind fun x s2 => (asV x s2).bind fun d s3 => .ok (some d) s3
        | some c => (evE P go c env' s).bind fun x s1 => (match x with
          | .v (.bl b) => if b then (evE P go e env' s1).bind fun x s2 => (asV x s2).bind fun d s3 => .ok (some d) s3 else .ok none s1
          | _ => .stuck))) (turns cur st1) 0 [] st1).bind fun ys st2 => .ok (.t ys) st2
  | .bad, _, _ => .stuck
def evI (P : Prog) (go : Go) : Wk → Env → Store → R Cur
  | .rng es, env, st => (evEs P go es env st).bind fun xs st1 => (match curRng xs with
    | some cur => .ok cur st1
    | none => .stuck)
  | .seq e, env, st => (evE P go e env st).bind fun x st1 => (match curOf x st1 with
    | some cur => .ok cur st1
    | none => .stuck)
  | .rev e, env, st => (evE P go e env st).bind fun x st1 => (match curRev x st1 with
    | some cur => .ok cur st1
    | none => .stuck)
def evEs (P : Prog) (go : Go) : Es → Env → Store → R (List Ev)
  | .nil, _, st => .ok [] st
  | .cons e es, env, st => (evE P go e env st).bind fun x st1 => (evEs P go es env st1).bind fun xs st2 => .ok (x :: xs) st2
def evO (P : Prog) (go : Go) : Option E → Env → Store → R (Option Int)
  | none, _, st => .ok none st
  | some e, env, st => (evE P go e env st).bind fun x st1 => (match x with
    | .v (.int i) => .ok (some i) st1
    | _ => .stuck)
end
/-- a test -/
def evT (P : Prog) (go : Go) : E → Env → Store → R Bool
  | .and a b, env, st => (evT P go a env st).bind fun c st1 => if c then evT P go b env st1 else .ok false st1
  | .or a b, env, st => (evT P go a env st).bind fun c st1 => if c then .ok true st1 else evT P go b env st1
  | .not a, env, st => (evT P go a env st).bind fun c st1 => .ok (!c) st1
  | e, env, st => (evE P go e env st).bind fun x st1 => (match truD x st1 with
    | some b => .ok b st1
    | none => .stuck)

/-! ### statements -/
def exS (P : Prog) (go : Go) : S → Env → Store → Out
  | .nop, env, st => .nx env st
  | .seq a b, env, st => (exS P go a env st).bind fun e s => exS P go b e s
  | .asg i e, env, st => (evE P go e env st).out env fun x st1 => let p := mat x st1; .nx (env.set i (some p.1)) p.2
  | .unp is e, env, st => (evE P go e env st).out env fun x st1 => (match x with
    | .v d => (match bindG is false d env with
      | some env' => .nx env' st1
      | none => .stuck)
    | _ => .stuck)
  | .setI o i e, env, st => (evE P go e env st).out env fun x st1 => let p := mat x st1; (evE P go o env p.2).out env fun y st2 => (evE P go i env st2).out env fun z st3 => (match y, z with
    | .v (.ref n), .v k => (match st3[n]? with
      | some (.lst ds) => (match k with
        | .int k => (match L2.ixN ds.length k with
          | some j => .nx env (st3.set n (.lst (ds.set j p.1)))
          | none => .stuck)
        | _ => .stuck)
      | some (.dic false kvs) => (match dkey k with
        | some k => if kvs.length < lim then .nx env (st3.set n (.dic false (dPut kvs k p.1))) else .stuck
        | none => .stuck)
      | _ => .stuck)
    | _, _ => .stuck)
  | .setF o f e, env, st => (evE P go e env st).out env fun x st1 => let p := mat x st1; (evE P go o env p.2).out env fun y st2 => (match y with
    | .v (.ref n) => (match st2[n]? with
      | some (.ins c fs) => if fs.length < 1000 ∧ flds.contains (c, f) = true then .nx env (st2.set n (.ins c (putD f p.1 fs))) else .stuck
      | _ => .stuck)
    | _ => .stuck)
  | .aug i op e, env, st => (match env[i]? with
    | some (some d) => (evE P go e env st).out env fun x st1 => (match op, d, x with
      | .add, .int a, .v (.int b) => .nx (env.set i (some (.int (a + b)))) st1
      | .sub, .int a, .v (.int b) => .nx (env.set i (some (.int (a - b)))) st1
      | _, _, _ => .stuck)
    | _ => .stuck)
  | .expr e, env, st => (evE P go e env st).out env fun _ st1 => .nx env st1
  | .ret e, env, st => (evE P go e env st).out env fun x st1 => .rt x st1
  | .retN, _, st => .rt (.v .non) st
  | .ifs c a b, env, st => (evT P go c env st).out env fun k st1 => if k then exS P go a env st1 else exS P go b env st1
  | .loop g one it b, env, st => (evI P go it env st).out env fun cur st1 => forGo cur g one (fun e s => exS P go b e s) (turns cur st1) 0 env st1
  | .whl c b, env, st => whGo (fun e s => evT P go c e s) (fun e s => exS P go b e s) loopFuel env st
  | .raiseT c, env, st => if P.excs.contains c then .ex c [] env st else .stuck
  | .bad, _, _ => .stuck
/-- a def's end -/
def Out.fin : Out → R Ev
  | .nx _ st => .ok (.v .non) st
  | .rt v st => .ok v st
  | .ex c fs _ st => .ex c fs st
  | .stuck => .stuck
def runB (P : Prog) (go : Go) (fn : Fn) (as : List D) (st : Store) : R Ev := (exS P go fn.body (as.map some ++ List.replicate (fn.ns - fn.np) none) st).fin
def goI (P : Prog) : Nat → Go
  | 0, _, _, _ => .stuck
  | n + 1, fn, as, st => runB P (goI P n) fn as st
end SI

set_option maxHeartbeats 1000000
/-! SI 2: what the values and the store stand for in the abstract heap; how the heap grows. -/
namespace SI
open PySem L2
abbrev Frag := PySem.W.Frag

/-- a list that is read: frozen, or the module's -/
def SqF (K : Frag) (H : Hp) (a : Addr) (xs : List V) : Prop :=
  (∃ o, H a = some (.frz o (.lst xs))) ∨ ∃ (o : Obj) (its : Array Value) (n : Nat), K.lookup a = some o ∧ o.cls = .type "list" ∧ o.dict = none ∧ o.data = .seq its n ∧ its.size ≤ sizeLine ∧ Vals xs its.toList
theorem SqF.sq {K : Frag} {H : Hp} {a : Addr} {xs : List V} (h : SqF K H a xs) : SqL K H a xs := by
  rcases h with ⟨o, h⟩ | h
  · exact .inl (.inr ⟨o, h⟩)
  · exact .inr h
mutual
def Rel (K : Frag) (r : List Addr) (H : Hp) : D → V → Prop
  | .non, v => v = .non
  | .bl b, v => v = .bl b
  | .int i, v => v = .int i
  | .str s, v => v = .str s
  | .ref n, v => ∃ a, r[n]? = some a ∧ v = .ref a
  | .tup ds, v => ∃ a xs, v = .ref a ∧ H a = some (.tup xs) ∧ RelL K r H ds xs
  | .ro ds, v => ∃ a xs, v = .ref a ∧ SqF K H a xs ∧ RelL K r H ds xs
def RelL (K : Frag) (r : List Addr) (H : Hp) : List D → List V → Prop
  | [], xs => xs = []
  | d :: ds, xs => ∃ v vs, xs = v :: vs ∧ Rel K r H d v ∧ RelL K r H ds vs
end
def Ext (r r' : List Addr) : Prop := ∀ (n : Nat) a, r[n]? = some a → r'[n]? = some a
structure Tups (K : Frag) (H H' : Hp) : Prop where
  t : ∀ a xs, SqT K H a xs → SqT K H' a xs
  p : ∀ a xs, H a = some (.tup xs) → H' a = some (.tup xs)
  f : ∀ a xs, SqF K H a xs → SqF K H' a xs
theorem Ext.refl (r : List Addr) : Ext r r := fun _ _ h => h
theorem Ext.trans {a b c : List Addr} (x : Ext a b) (y : Ext b c) : Ext a c := fun n q h => y n q (x n q h)
theorem Ext.snoc (r : List Addr) (a : Addr) : Ext r (r ++ [a]) := fun n b h => by
  have hl : n < r.length := (List.getElem?_eq_some_iff.mp h).1
  rw [List.getElem?_append_left hl]; exact h
mutual
theorem Rel.mono {K : Frag} {r r' : List Addr} {H H' : Hp} (e : Ext r r') (t : Tups K H H') : ∀ {d : D} {v : V}, Rel K r H d v → Rel K r' H' d v
  | .non, v, h => by unfold Rel at *; exact h
  | .bl b, v, h => by unfold Rel at *; exact h
  | .int b, v, h => by unfold Rel at *; exact h
  | .str b, v, h => by unfold Rel at *; exact h
  | .ref n, v, h => by
    unfold Rel at *
    obtain ⟨a, h1, h2⟩ := h
    exact ⟨a, e n a h1, h2⟩
  | .tup ds, v, h => by
    unfold Rel at *
    obtain ⟨a, xs, h1, h2, h3⟩ := h
    exact ⟨a, xs, h1, t.p a xs h2, RelL.mono e t h3⟩
  | .ro ds, v, h => by
    unfold Rel at *
    obtain ⟨a, xs, h1, h2, h3⟩ := h
    exact ⟨a, xs, h1, t.f a xs h2, RelL.mono e t h3⟩
theorem RelL.mono {K : Frag} {r r' : List Addr} {H H' : Hp} (e : Ext r r') (t : Tups K H H') : ∀ {ds : List D} {xs : List V}, RelL K r H ds xs → RelL K r' H' ds xs
  | [], xs, h => by unfold RelL at *; exact h
  | d :: ds, xs, h => by
    unfold RelL at *
    obtain ⟨v, vs, h1, h2, h3⟩ := h
    exact ⟨v, vs, h1, Rel.mono e t h2, RelL.mono e t h3⟩
end
section
variable {K : Frag} {r : List Addr} {H : Hp}
theorem relL_nil : RelL K r H [] [] := by unfold RelL; rfl
theorem relL_cons {d : D} {v : V} {ds : List D} {vs : List V} (h : Rel K r H d v) (t : RelL K r H ds vs) : RelL K r H (d :: ds) (v :: vs) := by unfold RelL; exact ⟨v, vs, rfl, h, t⟩
theorem RelL.uncons {d : D} {ds : List D} {xs : List V} (h : RelL K r H (d :: ds) xs) : ∃ v vs, xs = v :: vs ∧ Rel K r H d v ∧ RelL K r H ds vs := by unfold RelL at h; exact h
theorem RelL.unnil {xs : List V} (h : RelL K r H [] xs) : xs = [] := by unfold RelL at h; exact h
theorem RelL.length : ∀ {ds : List D} {xs : List V}, RelL K r H ds xs → ds.length = xs.length
  | [], xs, h => by rw [h.unnil]; rfl
  | d :: ds, xs, h => by
    obtain ⟨v, vs, rfl, _, t⟩ := h.uncons
    simp [RelL.length t]
theorem RelL.get : ∀ {ds : List D} {xs : List V} {i : Nat} {d : D}, RelL K r H ds xs → ds[i]? = some d → ∃ v, xs[i]? = some v ∧ Rel K r H d v
  | [], _, _, _, _, e => by simp at e
  | d :: ds, xs, 0, _, h, e => by
    obtain ⟨v, vs, rfl, a, _⟩ := h.uncons
    simp at e; subst e; exact ⟨v, rfl, a⟩
  | d :: ds, xs, i + 1, _, h, e => by
    obtain ⟨v, vs, rfl, _, t⟩ := h.uncons
    obtain ⟨u, h1, h2⟩ := RelL.get (i := i) t (by simpa using e)
    exact ⟨u, by simpa using h1, h2⟩
theorem RelL.append : ∀ {ds es : List D} {xs ys : List V}, RelL K r H ds xs → RelL K r H es ys → RelL K r H (ds ++ es) (xs ++ ys)
  | [], _, _, _, h, t => by rw [h.unnil]; exact t
  | d :: ds, _, _, _, h, t => by
    obtain ⟨v, vs, rfl, a, b⟩ := h.uncons
    exact relL_cons a (RelL.append b t)
theorem RelL.rev {ds : List D} {xs : List V} (h : RelL K r H ds xs) : RelL K r H ds.reverse xs.reverse := by
  induction ds generalizing xs with
  | nil => rw [h.unnil]; exact relL_nil
  | cons d ds ih =>
    obtain ⟨v, vs, rfl, a, b⟩ := h.uncons
    rw [List.reverse_cons, List.reverse_cons]
    exact (ih b).append (relL_cons a relL_nil)
theorem RelL.set {d : D} {v : V} (q : Rel K r H d v) : ∀ {ds : List D} {xs : List V} (i : Nat), RelL K r H ds xs → RelL K r H (ds.set i d) (xs.set i v)
  | [], _, _, h => by rw [h.unnil]; exact relL_nil
  | _ :: ds, _, 0, h => by
    obtain ⟨u, vs, rfl, a, b⟩ := h.uncons
    exact relL_cons q b
  | _ :: ds, _, i + 1, h => by
    obtain ⟨u, vs, rfl, a, b⟩ := h.uncons
    exact relL_cons a (RelL.set q i b)
theorem RelL.drop : ∀ {ds : List D} {xs : List V} (i : Nat), RelL K r H ds xs → RelL K r H (ds.drop i) (xs.drop i)
  | ds, xs, 0, h => by simpa using h
  | [], xs, i + 1, h => by rw [h.unnil]; exact relL_nil
  | d :: ds, xs, i + 1, h => by
    obtain ⟨u, vs, rfl, a, b⟩ := h.uncons
    simpa using RelL.drop i b
theorem RelL.take : ∀ {ds : List D} {xs : List V} (i : Nat), RelL K r H ds xs → RelL K r H (ds.take i) (xs.take i)
  | ds, xs, 0, h => by simpa using relL_nil
  | [], xs, i + 1, h => by rw [h.unnil]; exact relL_nil
  | d :: ds, xs, i + 1, h => by
    obtain ⟨u, vs, rfl, a, b⟩ := h.uncons
    simpa using relL_cons a (RelL.take i b)
end

/-! ### the heap grows -/
/-- things that no step changes -/
def Fixed : HO → Prop
  | .tup _ => True
  | .frz _ _ => True
  | .own _ => True
  | .xd _ => True
  | _ => False
def Off (r : List Addr) (a : Addr) : Prop := ∀ n : Nat, r[n]? ≠ some a
structure Up (r : List Addr) (H : Hp) (r' : List Addr) (H' : Hp) : Prop where
  pre : Ext r r'
  keep : ∀ a o, H a = some o → Off r a ∨ Fixed o → H' a = some o
  fresh : ∀ (n : Nat) a, r[n]? = none → r'[n]? = some a → H a = none
  dom : ∀ a, H' a = none → H a = none
theorem Up.refl (r : List Addr) (H : Hp) : Up r H r H := ⟨Ext.refl r, fun _ _ h _ => h, fun n a h1 h2 => by (rw [h1] at h2; cases h2), fun _ h => h⟩
theorem Up.off {r r' : List Addr} {H H' : Hp} (u : Up r H r' H') {a : Addr} {o : HO} (h : H a = some o) (f : Off r a) : Off r' a := fun n e => by
  cases q : r[n]? with
  | some b =>
    have := u.pre n b q
    rw [this] at e
    cases e
    exact f n q
  | none =>
    have := u.fresh n a q e
    rw [h] at this; cases this
theorem Up.trans {r r1 r2 : List Addr} {H H1 H2 : Hp} (a : Up r H r1 H1) (b : Up r1 H1 r2 H2) : Up r H r2 H2 where
  pre := a.pre.trans b.pre
  keep := fun x o h f => by
    have h1 := a.keep x o h f
    refine b.keep x o h1 ?_
    rcases f with f | f
    · exact .inl (a.off h f)
    · exact .inr f
  fresh := fun n x h1 h2 => by
    cases q : r1[n]? with
    | some y =>
      have := b.pre n y q
      rw [this] at h2; cases h2
      exact a.fresh n _ h1 q
    | none => exact a.dom x (b.fresh n x q h2)
  dom := fun x h => a.dom x (b.dom x h)
theorem tups_of {K : Frag} {H H' : Hp} (k : ∀ a o, H a = some o → Fixed o → H' a = some o) : Tups K H H' where
  t := fun a xs h => by
    rcases h with (h | ⟨o, h⟩) | h
    · exact .inl (.inl (k a _ h trivial))
    · exact .inl (.inr ⟨o, k a _ h trivial⟩)
    · exact .inr h
  p := fun a xs h => k a _ h trivial
  f := fun a xs h => by
    rcases h with ⟨o, h⟩ | h
    · exact .inl ⟨o, k a _ h trivial⟩
    · exact .inr h
theorem Up.sqT {K : Frag} {r r' : List Addr} {H H' : Hp} (u : Up r H r' H') : Tups K H H' := tups_of fun a o h f => u.keep a o h (.inr f)
theorem Up.rel {K : Frag} {r r' : List Addr} {H H' : Hp} (u : Up r H r' H') {d : D} {v : V} (h : Rel K r H d v) : Rel K r' H' d v := Rel.mono u.pre u.sqT h
theorem Up.relL {K : Frag} {r r' : List Addr} {H H' : Hp} (u : Up r H r' H') {ds : List D} {xs : List V} (h : RelL K r H ds xs) : RelL K r' H' ds xs := RelL.mono u.pre u.sqT h
theorem Tups.refl {K : Frag} (H : Hp) : Tups K H H := ⟨fun _ _ h => h, fun _ _ h => h, fun _ _ h => h⟩
/-- a new object that no cell is -/
theorem Up.new {r : List Addr} {H : Hp} {p : Addr} {o : HO} (h : H p = none) : Up r H r (upd H p o) where
  pre := Ext.refl r
  keep := fun a u e _ => by rw [upd_ne (ne_of_none e h)]; exact e
  fresh := fun n a h1 h2 => by rw [h1] at h2; cases h2
  dom := fun a e => by
    by_cases q : a = p
    · subst q; exact h
    · rw [upd_ne q] at e; exact e

/-! ### cells -/
def RelF (K : Frag) (r : List Addr) (H : Hp) : List (Str × D) → List (Str × V) → Prop
  | [], ys => ys = []
  | p :: ps, ys => ∃ v vs, ys = (p.1, v) :: vs ∧ Rel K r H p.2 v ∧ RelF K r H ps vs
theorem RelF.mono {K : Frag} {r r' : List Addr} {H H' : Hp} (e : Ext r r') (t : Tups K H H') : ∀ {ds : List (Str × D)} {xs : List (Str × V)}, RelF K r H ds xs → RelF K r' H' ds xs
  | [], xs, h => h
  | d :: ds, xs, h => by
    obtain ⟨v, vs, h1, h2, h3⟩ := h
    exact ⟨v, vs, h1, Rel.mono e t h2, RelF.mono e t h3⟩
/-- a dict's items -/
def RelK (K : Frag) (r : List Addr) (H : Hp) : List (L2.Key × D) → List (L2.Key × V) → Prop
  | [], ys => ys = []
  | p :: ps, ys => ∃ v vs, ys = (p.1, v) :: vs ∧ Rel K r H p.2 v ∧ RelK K r H ps vs
theorem RelK.mono {K : Frag} {r r' : List Addr} {H H' : Hp} (e : Ext r r') (t : Tups K H H') : ∀ {ds : List (L2.Key × D)} {xs : List (L2.Key × V)}, RelK K r H ds xs → RelK K r' H' ds xs
  | [], xs, h => h
  | d :: ds, xs, h => by
    obtain ⟨v, vs, h1, h2, h3⟩ := h
    exact ⟨v, vs, h1, Rel.mono e t h2, RelK.mono e t h3⟩
theorem RelK.len {K : Frag} {r : List Addr} {H : Hp} : ∀ {ds : List (L2.Key × D)} {xs : List (L2.Key × V)}, RelK K r H ds xs → ds.length = xs.length
  | [], xs, h => by rw [show xs = [] from h]; rfl
  | d :: ds, xs, h => by
    obtain ⟨v, vs, rfl, _, h3⟩ := h
    simp [RelK.len h3]
theorem dGet_cons {p : L2.Key × D} {ps : List (L2.Key × D)} {k : L2.Key} : dGet (p :: ps) k = if p.1 = k then some p.2 else dGet ps k := by
  unfold dGet
  by_cases e : p.1 = k <;> simp [List.find?_cons, e]
theorem RelK.get {K : Frag} {r : List Addr} {H : Hp} (k : L2.Key) : ∀ {ds : List (L2.Key × D)} {xs : List (L2.Key × V)}, RelK K r H ds xs → (∀ d, dGet ds k = some d → ∃ v, valV xs k = some v ∧ Rel K r H d v) ∧ (dGet ds k = none → valV xs k = none)
  | [], xs, h => by rw [show xs = [] from h]; exact ⟨fun d e => by (cases e), fun _ => rfl⟩
  | p :: ps, xs, h => by
    obtain ⟨v, vs, rfl, h2, h3⟩ := h
    obtain ⟨a1, a2⟩ := RelK.get k h3
    rw [dGet_cons]
    by_cases e : p.1 = k
    · rw [if_pos e, valV_pos (p := (p.1, v)) e]
      exact ⟨fun d q => by (cases q; exact ⟨v, rfl, h2⟩), fun q => by (cases q)⟩
    · rw [if_neg e, valV_neg (p := (p.1, v)) e]
      exact ⟨a1, a2⟩
theorem RelK.any {K : Frag} {r : List Addr} {H : Hp} (k : L2.Key) : ∀ {ds : List (L2.Key × D)} {xs : List (L2.Key × V)}, RelK K r H ds xs → (ds.any fun kv => decide (kv.1 = k)) = (xs.any fun kv => decide (kv.1 = k))
  | [], xs, h => by rw [show xs = [] from h]; rfl
  | p :: ps, xs, h => by
    obtain ⟨v, vs, rfl, h2, h3⟩ := h
    simp [RelK.any k h3]
theorem RelK.app {K : Frag} {r : List Addr} {H : Hp} {q : L2.Key × D} {w : V} (hw : Rel K r H q.2 w) : ∀ {ds : List (L2.Key × D)} {xs : List (L2.Key × V)}, RelK K r H ds xs → RelK K r H (ds ++ [q]) (xs ++ [(q.1, w)])
  | [], xs, h => by rw [show xs = [] from h]; exact ⟨w, [], rfl, hw, rfl⟩
  | p :: ps, xs, h => by
    obtain ⟨v, vs, rfl, h2, h3⟩ := h
    exact ⟨v, _, rfl, h2, RelK.app hw h3⟩
theorem RelK.over {K : Frag} {r : List Addr} {H : Hp} {k : L2.Key} {d : D} {w : V} (hw : Rel K r H d w) : ∀ {ds : List (L2.Key × D)} {xs : List (L2.Key × V)}, RelK K r H ds xs →
    RelK K r H (ds.map fun kv => if kv.1 = k then (kv.1, d) else kv) (xs.map fun kv => if kv.1 = k then (kv.1, w) else kv)
  | [], xs, h => by rw [show xs = [] from h]; exact rfl
  | p :: ps, xs, h => by
    obtain ⟨v, vs, rfl, h2, h3⟩ := h
    rw [List.map_cons, List.map_cons]
    by_cases e : p.1 = k
    · rw [if_pos e, if_pos (show (p.1, v).1 = k from e)]
      exact ⟨w, _, rfl, hw, RelK.over hw h3⟩
    · rw [if_neg e, if_neg (show ¬ (p.1, v).1 = k from e)]
      exact ⟨v, _, rfl, h2, RelK.over hw h3⟩
theorem RelK.put {K : Frag} {r : List Addr} {H : Hp} {k : L2.Key} {d : D} {w : V} (hw : Rel K r H d w) {ds : List (L2.Key × D)} {xs : List (L2.Key × V)} (h : RelK K r H ds xs) : RelK K r H (dPut ds k d) (putK xs k w) := by
  unfold dPut putK
  rw [RelK.any k h]
  split
  · exact RelK.over hw h
  · exact RelK.app (q := (k, d)) hw h
theorem RelK.drop {K : Frag} {r : List Addr} {H : Hp} {k : L2.Key} : ∀ {ds : List (L2.Key × D)} {xs : List (L2.Key × V)}, RelK K r H ds xs → RelK K r H (dDrop ds k) (dropK xs k)
  | [], xs, h => by rw [show xs = [] from h]; exact rfl
  | p :: ps, xs, h => by
    obtain ⟨v, vs, rfl, h2, h3⟩ := h
    have ih := RelK.drop (k := k) h3
    unfold dDrop dropK at *
    rw [List.filter_cons, List.filter_cons]
    by_cases e : p.1 = k
    · rw [if_neg (by simp [e]), if_neg (by simp [e])]
      exact ih
    · rw [if_pos (by simp [e]), if_pos (by simp [e])]
      exact ⟨v, _, rfl, h2, ih⟩
theorem relK_keys {K : Frag} {r : List Addr} {H : Hp} : ∀ {ds : List (L2.Key × D)} {xs : List (L2.Key × V)}, RelK K r H ds xs → RelL K r H (ds.map fun kv => unkey kv.1) (xs.map fun kv => kV kv.1)
  | [], xs, h => by rw [show xs = [] from h]; exact relL_nil
  | p :: ps, xs, h => by
    obtain ⟨v, vs, rfl, h2, h3⟩ := h
    refine relL_cons ?_ (relK_keys h3)
    obtain ⟨k, d⟩ := p
    cases k <;> (unfold unkey Rel; rfl)
def CellR (K : Frag) (mg : Str → Option Value) (r : List Addr) (H : Hp) : Cell → Addr → Prop
  | .lst ds, a => ∃ xs, H a = some (.lst xs) ∧ RelL K r H ds xs
  | .ins c fs, a => ∃ C dx fsV, mg c = some (.ref C) ∧ H a = some (.ins C dx fsV) ∧ RelF K r H fs fsV
  | .dic lk kvs, a => ∃ kw, (match lk with
    | false => H a = some (.dK kw)
    | true => ∃ o, H a = some (.frz o (.dK kw))) ∧ RelK K r H kvs kw
structure Sim (K : Frag) (mg : Str → Option Value) (r : List Addr) (st : Store) (H : Hp) : Prop where
  len : r.length = st.length
  inj : ∀ (n m : Nat) a, r[n]? = some a → r[m]? = some a → n = m
  ok : ∀ (n : Nat) a c, r[n]? = some a → st[n]? = some c → CellR K mg r H c a
section
variable {K : Frag} {mg : Str → Option Value} {r r' : List Addr} {H H' : Hp} {st : Store}
theorem Sim.at (S : Sim K mg r st H) {n : Nat} {c : Cell} (h : st[n]? = some c) : ∃ a, r[n]? = some a ∧ CellR K mg r H c a := by
  have hl : n < r.length := by rw [S.len]; exact (List.getElem?_eq_some_iff.mp h).1
  exact ⟨r[n], by simp [hl], S.ok n _ c (by simp [hl]) h⟩
theorem CellR.keep {c : Cell} {a : Addr} (h : CellR K mg r H c a) (e : Ext r r') (t : Tups K H H') (k : ∀ o, H a = some o → H' a = some o) : CellR K mg r' H' c a := by
  cases c with
  | lst ds =>
    obtain ⟨xs, h1, h2⟩ := h
    exact ⟨xs, k _ h1, h2.mono e t⟩
  | ins c fs =>
    obtain ⟨C, dx, fv, h0, h1, h2⟩ := h
    exact ⟨C, dx, fv, h0, k _ h1, h2.mono e t⟩
  | dic lk kvs =>
    obtain ⟨kw, h1, h2⟩ := h
    cases lk with
    | false => exact ⟨kw, k _ h1, h2.mono e t⟩
    | true =>
      obtain ⟨o, h1⟩ := h1
      exact ⟨kw, ⟨o, k _ h1⟩, h2.mono e t⟩
/-- nothing that a cell is has changed -/
theorem Sim.keep (S : Sim K mg r st H) (t : Tups K H H') (k : ∀ a o, H a = some o → H' a = some o) : Sim K mg r st H' :=
  ⟨S.len, S.inj, fun n a c h1 h2 => (S.ok n a c h1 h2).keep (Ext.refl r) t (k a)⟩
theorem tups_new {p : Addr} {o : HO} (h : H p = none) : Tups K H (upd H p o) := (Up.new (r := []) h).sqT
theorem Sim.new (S : Sim K mg r st H) {p : Addr} {o : HO} (h : H p = none) : Sim K mg r st (upd H p o) :=
  S.keep (tups_new h) fun a u e => by rw [upd_ne (ne_of_none e h)]; exact e
/-- a list gets its number -/
theorem Sim.snoc (S : Sim K mg r st H) {a : Addr} {c : Cell} (off : Off r a) (h : CellR K mg r H c a) : Sim K mg (r ++ [a]) (st ++ [c]) H := by
  have hl := S.len
  refine ⟨by simp [hl], fun n m b h1 h2 => ?_, fun n b k h1 h2 => ?_⟩
  · by_cases hn : n < r.length
    · rw [List.getElem?_append_left hn] at h1
      by_cases hm : m < r.length
      · rw [List.getElem?_append_left hm] at h2
        exact S.inj n m b h1 h2
      · rw [List.getElem?_append_right (by omega)] at h2
        have : m - r.length = 0 := by
          cases e : m - r.length with
          | zero => rfl
          | succ k => rw [e] at h2; simp at h2
        rw [this] at h2
        simp at h2; subst h2
        exact (off n h1).elim
    · rw [List.getElem?_append_right (by omega)] at h1
      have e1 : n - r.length = 0 := by
        cases e : n - r.length with
        | zero => rfl
        | succ k => rw [e] at h1; simp at h1
      rw [e1] at h1
      simp at h1; subst h1
      by_cases hm : m < r.length
      · rw [List.getElem?_append_left hm] at h2
        exact (off m h2).elim
      · rw [List.getElem?_append_right (by omega)] at h2
        have e2 : m - r.length = 0 := by
          cases e : m - r.length with
          | zero => rfl
          | succ k => rw [e] at h2; simp at h2
        omega
  · by_cases hn : n < r.length
    · rw [List.getElem?_append_left hn] at h1
      rw [List.getElem?_append_left (by omega)] at h2
      exact (S.ok n b k h1 h2).keep (Ext.snoc r a) (Tups.refl H) fun _ e => e
    · rw [List.getElem?_append_right (by omega)] at h1 h2
      have e1 : n - r.length = 0 := by
        cases e : n - r.length with
        | zero => rfl
        | succ k => rw [e] at h1; simp at h1
      have e2 : n - st.length = 0 := by omega
      rw [e1] at h1; rw [e2] at h2
      simp at h1 h2; subst h1; subst h2
      exact h.keep (Ext.snoc r _) (Tups.refl H) fun _ e => e
/-- a cell is written -/
theorem Sim.write (S : Sim K mg r st H) {n : Nat} {a : Addr} {o o' : HO} {c c' : Cell} (hr : r[n]? = some a) (hs : st[n]? = some c) (ho : H a = some o) (nf : ¬ Fixed o)
    (h : Tups K H (upd H a o') → CellR K mg r (upd H a o') c' a) : Sim K mg r (st.set n c') (upd H a o') ∧ Up r H r (upd H a o') := by
  have t : Tups K H (upd H a o') := tups_of fun b u e f => by
    rw [upd_ne]; exact e
    rintro rfl
    rw [ho] at e; cases e; exact nf f
  have hn : n < st.length := (List.getElem?_eq_some_iff.mp hs).1
  refine ⟨⟨by simp [S.len], S.inj, fun m b k h1 h2 => ?_⟩, ⟨Ext.refl r, fun b u e f => ?_, fun m b h1 h2 => by (rw [h1] at h2; cases h2), fun b e => ?_⟩⟩
  · by_cases e : n = m
    · subst e
      rw [List.getElem?_set_self hn] at h2
      cases h2
      rw [hr] at h1; cases h1
      exact h t
    · rw [List.getElem?_set_ne e] at h2
      have q := S.ok m b k h1 h2
      have hb : b ≠ a := fun z => e (S.inj n m a hr (by rw [← z]; exact h1))
      exact q.keep (Ext.refl r) t fun u z => by rw [upd_ne hb]; exact z
  · by_cases hb : b = a
    · subst hb
      rw [ho] at e; cases e
      rcases f with f | f
      · exact (f n hr).elim
      · exact (nf f).elim
    · rw [upd_ne hb]; exact e
  · by_cases hb : b = a
    · subst hb; rw [upd_same] at e; cases e
    · rw [upd_ne hb] at e; exact e
theorem CellR.some {c : Cell} {a : Addr} (h : CellR K mg r H c a) : ∃ o, H a = some o := by
  cases c with
  | lst ds => obtain ⟨xs, h1, _⟩ := h; exact ⟨_, h1⟩
  | ins c fs => obtain ⟨C, dx, fv, _, h1, _⟩ := h; exact ⟨_, h1⟩
  | dic lk kvs =>
    obtain ⟨kw, h1, _⟩ := h
    cases lk with
    | false => exact ⟨_, h1⟩
    | true => obtain ⟨o, h1⟩ := h1; exact ⟨_, h1⟩
/-- what is new is no cell -/
theorem Sim.off (S : Sim K mg r st H) {p : Addr} (h : H p = none) : Off r p := fun n e => by
  have hl : n < st.length := by rw [← S.len]; exact (List.getElem?_eq_some_iff.mp e).1
  obtain ⟨o, q⟩ := (S.ok n p st[n] e (by simp [hl])).some
  rw [h] at q; cases q
end

/-! ### an expression's value -/
/-- H0: the heap ahead of it -/
def RelEv (K : Frag) (r : List Addr) (H0 H : Hp) : Ev → V → Prop
  | .v d, v => Rel K r H d v
  | .t ds, v => ∃ a xs, v = .ref a ∧ H0 a = none ∧ Off r a ∧ H a = some (.lst xs) ∧ RelL K r H ds xs
section
variable {K : Frag} {mg : Str → Option Value} {r r' r0 : List Addr} {H H' H0 : Hp} {st : Store} {x : Ev} {v : V}
theorem RelEv.up (h : RelEv K r H0 H x v) (u : Up r H r' H') : RelEv K r' H0 H' x v := by
  cases x with
  | v d => exact u.rel h
  | t ds =>
    obtain ⟨a, xs, h1, h2, h3, h4, h5⟩ := h
    exact ⟨a, xs, h1, h2, u.off h4 h3, u.keep _ _ h4 (.inl h3), u.relL h5⟩
theorem RelEv.older (h : RelEv K r H H' x v) (d : ∀ a, H a = none → H0 a = none) : RelEv K r H0 H' x v := by
  cases x with
  | v _ => exact h
  | t ds =>
    obtain ⟨a, xs, h1, h2, h3, h4, h5⟩ := h
    exact ⟨a, xs, h1, d a h2, h3, h4, h5⟩
theorem off_snoc {a b : Addr} (h : Off r b) (ne : b ≠ a) : Off (r ++ [a]) b := fun n e => by
  by_cases hn : n < r.length
  · rw [List.getElem?_append_left hn] at e; exact h n e
  · rw [List.getElem?_append_right (by omega)] at e
    cases q : n - r.length with
    | zero => rw [q] at e; simp at e; exact ne e.symm
    | succ k => rw [q] at e; simp at e
/-- a value is held: a new list gets its number -/
theorem mat_ok (U : Up r0 H0 r H) (S : Sim K mg r st H) (h : RelEv K r H0 H x v) :
    ∃ r', Up r0 H0 r' H ∧ Ext r r' ∧ Sim K mg r' (mat x st).2 H ∧ Rel K r' H (mat x st).1 v ∧ (∀ b, Off r b → (∀ ds, x = .t ds → V.ref b ≠ v) → Off r' b) := by
  cases x with
  | v d => exact ⟨r, U, Ext.refl r, S, h, fun b h _ => h⟩
  | t ds =>
    obtain ⟨a, xs, rfl, h2, h3, h4, h5⟩ := h
    have hl := S.len
    refine ⟨r ++ [a], ⟨U.pre.trans (Ext.snoc r a), U.keep, fun n b e1 e2 => ?_, U.dom⟩, Ext.snoc r a, S.snoc h3 ⟨xs, h4, h5⟩, ?_, fun b hb ne => off_snoc hb fun e => ne ds rfl (by rw [e])⟩
    · by_cases hn : n < r.length
      · rw [List.getElem?_append_left hn] at e2; exact U.fresh n b e1 e2
      · rw [List.getElem?_append_right (by omega)] at e2
        cases q : n - r.length with
        | zero => rw [q] at e2; simp at e2; subst e2; exact h2
        | succ k => rw [q] at e2; simp at e2
    · unfold mat Rel
      exact ⟨a, by simp [hl], rfl⟩
/-- several values: the new lists among them are unlike -/
def RelEvs (K : Frag) (r : List Addr) (H0 H : Hp) : List Ev → List V → Prop
  | [], vs => vs = []
  | x :: xs, vs => ∃ v ws, vs = v :: ws ∧ RelEv K r H0 H x v ∧ (∀ ds, x = .t ds → ∀ (i : Nat) es, xs[i]? = some (.t es) → ws[i]? ≠ some v) ∧ RelEvs K r H0 H xs ws
theorem RelEvs.length : ∀ {xs : List Ev} {vs : List V}, RelEvs K r H0 H xs vs → xs.length = vs.length
  | [], vs, h => by rw [show vs = [] from h]; rfl
  | x :: xs, vs, h => by
    obtain ⟨v, ws, rfl, _, _, t⟩ := h
    simp [RelEvs.length t]
theorem RelEvs.up : ∀ {xs : List Ev} {vs : List V}, RelEvs K r H0 H xs vs → Up r H r' H' → RelEvs K r' H0 H' xs vs
  | [], vs, h, u => h
  | x :: xs, vs, h, u => by
    obtain ⟨v, ws, h1, h2, h3, h4⟩ := h
    exact ⟨v, ws, h1, h2.up u, h3, h4.up u⟩
theorem RelEvs.older : ∀ {xs : List Ev} {vs : List V}, RelEvs K r H H' xs vs → (∀ a, H a = none → H0 a = none) → RelEvs K r H0 H' xs vs
  | [], vs, h, d => h
  | x :: xs, vs, h, d => by
    obtain ⟨v, ws, h1, h2, h3, h4⟩ := h
    exact ⟨v, ws, h1, h2.older d, h3, h4.older d⟩
theorem mats_ok : ∀ {xs : List Ev} {vs : List V} {r : List Addr} {st : Store}, Up r0 H0 r H → Sim K mg r st H → RelEvs K r H0 H xs vs →
    ∃ r', Up r0 H0 r' H ∧ Ext r r' ∧ Sim K mg r' (mats xs st).2 H ∧ RelL K r' H (mats xs st).1 vs
  | [], vs, r, st, U, S, h => ⟨r, U, Ext.refl r, S, by rw [show vs = [] from h]; exact relL_nil⟩
  | .v d :: xs, vs, r, st, U, S, h => by
    obtain ⟨v, ws, rfl, h2, h3, h4⟩ := h
    obtain ⟨r2, U2, E2, S2, R2⟩ := mats_ok U S h4
    exact ⟨r2, U2, E2, S2, relL_cons (Rel.mono E2 (Tups.refl H) h2) R2⟩
  | .t ds :: xs, vs, r, st, U, S, h => by
    obtain ⟨v, ws, rfl, h2, h3, h4⟩ := h
    obtain ⟨r1, U1, E1, S1, R1, O1⟩ := mat_ok U S h2
    have h5 : RelEvs K r1 H0 H xs ws := by
      have key : ∀ (l : List Ev) (us : List V), (∀ (i : Nat) es, l[i]? = some (.t es) → us[i]? ≠ some v) → RelEvs K r H0 H l us → RelEvs K r1 H0 H l us := by
        intro l
        induction l with
        | nil => intro us _ q; exact q
        | cons y l ih =>
          intro us hne q
          obtain ⟨u, us', rfl, q2, q3, q4⟩ := q
          refine ⟨u, us', rfl, ?_, q3, ih us' (fun i es q => hne (i + 1) es (by simpa using q)) q4⟩
          cases y with
          | v d => exact Rel.mono E1 (Tups.refl H) q2
          | t ds =>
            obtain ⟨a, zs, rfl, z2, z3, z4, z5⟩ := q2
            refine ⟨a, zs, rfl, z2, O1 a z3 fun _ _ e => ?_, z4, z5.mono E1 (Tups.refl H)⟩
            exact hne 0 ds rfl (by rw [← e]; rfl)
      exact key xs ws (h3 ds rfl) h4
    obtain ⟨r2, U2, E2, S2, R2⟩ := mats_ok U1 S1 h5
    exact ⟨r2, U2, E1.trans E2, S2, relL_cons (Rel.mono E2 (Tups.refl H) R1) R2⟩
end
end SI

set_option maxHeartbeats 1000000
/-! SI 3: each operation by values does what the hand layer's rule asks. -/
namespace SI
open PySem L2
section
variable {K : Frag} {mg : Str → Option Value} {r r' : List Addr} {H H' H0 : Hp} {st : Store} {x y : Ev} {v w : V}

/-! ### lists and tuples read -/
theorem lstE_ok (S : Sim K mg r st H) (h : RelEv K r H0 H x v) {ds : List D} (e : lstE st x = some ds) : ∃ a xs, v = .ref a ∧ SqL K H a xs ∧ RelL K r H ds xs := by
  cases x with
  | t es =>
    obtain ⟨a, xs, rfl, _, _, h4, h5⟩ := h
    cases (show some es = some ds from e)
    exact ⟨a, xs, rfl, (.inl (.inl h4)), h5⟩
  | v d =>
    cases d with
    | ro es =>
      cases (show some es = some ds from e)
      unfold RelEv Rel at h
      obtain ⟨a, xs, h1, h2, h3⟩ := h
      exact ⟨a, xs, h1, h2.sq, h3⟩
    | ref n =>
      unfold RelEv Rel at h
      obtain ⟨a, h1, rfl⟩ := h
      unfold lstE items at e
      simp only at e
      cases q : st[n]? with
      | none => rw [q] at e; cases e
      | some c =>
        rw [q] at e
        have z := S.ok n a c h1 q
        cases c with
        | lst es =>
          cases e
          obtain ⟨xs, z1, z2⟩ := z
          exact ⟨a, xs, rfl, (.inl (.inl z1)), z2⟩
        | ins c fs => cases e
        | dic lk kvs => cases e
    | _ => cases e
theorem items_ok (S : Sim K mg r st H) (h : RelEv K r H0 H x v) {ds : List D} (e : items st x = some ds) : ∃ a xs, v = .ref a ∧ (SqL K H a xs ∨ SqT K H a xs) ∧ RelL K r H ds xs := by
  have key : lstE st x = some ds → ∃ a xs, v = .ref a ∧ (SqL K H a xs ∨ SqT K H a xs) ∧ RelL K r H ds xs := fun q => by
    obtain ⟨a, xs, h1, h2, h3⟩ := lstE_ok S h q
    exact ⟨a, xs, h1, .inl h2, h3⟩
  cases x with
  | t es => exact key e
  | v d =>
    cases d with
    | tup es =>
      cases (show some es = some ds from e)
      unfold RelEv Rel at h
      obtain ⟨a, xs, h1, h2, h3⟩ := h
      exact ⟨a, xs, h1, .inr (.inl (.inl h2)), h3⟩
    | ref n => exact key e
    | ro es => exact key e
    | _ => cases e

/-- a dict read -/
theorem dicE_ok (S : Sim K mg r st H) (h : RelEv K r H0 H x v) {kvs : List (L2.Key × D)} (e : dicE st x = some kvs) : ∃ a kw, v = .ref a ∧ Rd H a (.dK kw) ∧ RelK K r H kvs kw := by
  cases x with
  | t es => cases e
  | v d =>
    cases d with
    | ref n =>
      unfold RelEv Rel at h
      obtain ⟨a, h1, rfl⟩ := h
      unfold dicE at e
      simp only at e
      split at e
      · rename_i lk kvs' q
        cases e
        obtain ⟨kw, z1, z2⟩ := S.ok n a _ h1 q
        refine ⟨a, kw, rfl, ?_, z2⟩
        cases lk with
        | false => exact .inl z1
        | true => obtain ⟨o, z1⟩ := z1; exact .inr ⟨o, z1⟩
      · cases e
    | _ => cases e
/-! ### data for == -/
mutual
def toP : Nat → Store → D → PyData
  | _, _, .non => .none
  | _, _, .bl b => .bool b
  | _, _, .int i => .int i
  | _, _, .str s => .str s
  | 0, _, .ref _ => .none
  | 0, _, .tup _ => .none
  | 0, _, .ro _ => .none
  | n + 1, st, .tup ds => .tuple (toPs n st ds)
  | n + 1, st, .ro ds => .list (toPs n st ds)
  | n + 1, st, .ref k => (match items st (.v (.ref k)) with
    | some ds => .list (toPs n st ds)
    | none => .none)
termination_by n _ _ => (n, 0)
def toPs : Nat → Store → List D → List PyData
  | _, _, [] => []
  | n, st, d :: ds => toP n st d :: toPs n st ds
termination_by n _ ds => (n, ds.length + 1)
end
theorem all_cons {α : Type} {f : α → Bool} {a : α} {l : List α} (h : (a :: l).all f = true) : f a = true ∧ l.all f = true := by simpa using h
theorem ref_items (S : Sim K mg r st H) {k : Nat} {v : V} {ds : List D} (h : Rel K r H (.ref k) v) (e : items st (.v (.ref k)) = some ds) : ∃ a xs, v = .ref a ∧ SqL K H a xs ∧ RelL K r H ds xs :=
  lstE_ok (H0 := H) (x := .v (.ref k)) S h e
theorem isP_ref {n k : Nat} (h : isP (n + 1) st (.ref k) = true) : ∃ ds, items st (.v (.ref k)) = some ds ∧ ds.all (isP n st) = true := by
  unfold isP at h
  unfold items
  simp only
  cases q : st[k]? with
  | none => rw [q] at h; cases h
  | some c =>
    rw [q] at h
    cases c with
    | lst ds => exact ⟨ds, rfl, h⟩
    | ins c fs => cases h
    | dic lk kvs => cases h
theorem isPs_dp {n : Nat} (ih : ∀ d v, isP n st d = true → Rel K r H d v → Dp K H v (toP n st d) ∧ (toP n st d).canLay0 = true ∧ (toP n st d).depth ≤ n) :
    ∀ ds vs, ds.all (isP n st) = true → RelL K r H ds vs → DpAll K H vs (toPs n st ds) ∧ PyData.canLayAll0 (toPs n st ds) = true ∧ PyData.depthAll (toPs n st ds) ≤ n
  | [], vs, _, h => by
    rw [h.unnil]; unfold toPs
    exact ⟨.nil, by simp [PyData.canLayAll0], by simp [PyData.depthAll]⟩
  | d :: ds, vs, h, q => by
    obtain ⟨v, ws, rfl, q1, q2⟩ := q.uncons
    obtain ⟨h1, h2⟩ := all_cons h
    obtain ⟨a1, a2, a3⟩ := ih d v h1 q1
    obtain ⟨b1, b2, b3⟩ := isPs_dp ih ds ws h2 q2
    unfold toPs
    refine ⟨.cons a1 b1, by simp [PyData.canLayAll0, a2, b2], ?_⟩
    unfold PyData.depthAll
    omega
theorem isP_dp (S : Sim K mg r st H) : ∀ (n : Nat) (d : D) (v : V), isP n st d = true → Rel K r H d v → Dp K H v (toP n st d) ∧ (toP n st d).canLay0 = true ∧ (toP n st d).depth ≤ n := by
  intro n
  induction n with
  | zero =>
    intro d v h q
    cases d with
    | non => unfold Rel at q; subst q; unfold toP; exact ⟨.non, by simp [PyData.canLay0], by simp [PyData.depth]⟩
    | bl b => unfold Rel at q; subst q; unfold toP; exact ⟨.bl b, by simp [PyData.canLay0], by simp [PyData.depth]⟩
    | int b => unfold Rel at q; subst q; unfold toP; exact ⟨.int b, by simp [PyData.canLay0], by simp [PyData.depth]⟩
    | str b => unfold Rel at q; subst q; unfold toP; unfold isP at h; exact ⟨.str b, by simp [PyData.canLay0, h], by simp [PyData.depth]⟩
    | ref k => unfold isP at h; cases h
    | tup ds => unfold isP at h; cases h
    | ro ds => unfold isP at h; cases h
  | succ n ih =>
    intro d v h q
    cases d with
    | non => unfold Rel at q; subst q; unfold toP; exact ⟨.non, by simp [PyData.canLay0], by simp [PyData.depth]⟩
    | bl b => unfold Rel at q; subst q; unfold toP; exact ⟨.bl b, by simp [PyData.canLay0], by simp [PyData.depth]⟩
    | int b => unfold Rel at q; subst q; unfold toP; exact ⟨.int b, by simp [PyData.canLay0], by simp [PyData.depth]⟩
    | str b => unfold Rel at q; subst q; unfold toP; unfold isP at h; exact ⟨.str b, by simp [PyData.canLay0, h], by simp [PyData.depth]⟩
    | ref k =>
      obtain ⟨ds, e, h2⟩ := isP_ref h
      obtain ⟨a, xs, rfl, hs, hr⟩ := ref_items S q e
      obtain ⟨b1, b2, b3⟩ := isPs_dp ih ds xs h2 hr
      unfold toP
      rw [e]
      exact ⟨.lst hs b1, by simpa [PyData.canLay0] using b2, by simp only [PyData.depth]; omega⟩
    | tup ds =>
      unfold isP at h
      unfold Rel at q
      obtain ⟨a, xs, rfl, hs, hr⟩ := q
      obtain ⟨b1, b2, b3⟩ := isPs_dp ih ds xs h hr
      unfold toP
      exact ⟨.tup (.inl (.inl hs)) b1, by simpa [PyData.canLay0] using b2, by simp only [PyData.depth]; omega⟩
    | ro ds =>
      unfold isP at h
      unfold Rel at q
      obtain ⟨a, xs, rfl, hs, hr⟩ := q
      obtain ⟨b1, b2, b3⟩ := isPs_dp ih ds xs h hr
      unfold toP
      exact ⟨.lst hs.sq b1, by simpa [PyData.canLay0] using b2, by simp only [PyData.depth]; omega⟩
theorem eqs_eqv {n : Nat} (ih : ∀ a b, isP n st a = true → isP n st b = true → eqB n st a b = PyData.eqv (toP n st a) (toP n st b)) :
    ∀ as bs : List D, as.all (isP n st) = true → bs.all (isP n st) = true → eqs (eqB n st) as bs = PyData.eqvAll (toPs n st as) (toPs n st bs)
  | [], [], _, _ => by unfold toPs eqs PyData.eqvAll; rfl
  | [], b :: bs, _, _ => by unfold toPs eqs PyData.eqvAll; rfl
  | a :: as, [], _, _ => by unfold toPs eqs PyData.eqvAll; rfl
  | a :: as, b :: bs, h, h' => by
    obtain ⟨h1, h2⟩ := all_cons h
    obtain ⟨h3, h4⟩ := all_cons h'
    unfold toPs eqs PyData.eqvAll
    rw [ih a b h1 h3, eqs_eqv ih as bs h2 h4]
theorem lst_toP {n : Nat} {d : D} {ds : List D} (h : isP (n + 1) st d = true) (e : lstE st (.v d) = some ds) : ds.all (isP n st) = true ∧ toP (n + 1) st d = .list (toPs n st ds) := by
  cases d with
  | ref k =>
    obtain ⟨es, e', h2⟩ := isP_ref h
    have e2 : items st (.v (.ref k)) = some ds := e
    rw [e'] at e2
    cases e2
    exact ⟨h2, by unfold toP; rw [e']⟩
  | ro es =>
    cases (show some es = some ds from e)
    unfold isP at h
    exact ⟨h, by unfold toP; rfl⟩
  | _ => cases e
theorem eqB_eqv : ∀ (n : Nat) (a b : D), isP n st a = true → isP n st b = true → eqB n st a b = PyData.eqv (toP n st a) (toP n st b) := by
  intro n
  induction n with
  | zero =>
    intro a b ha hb
    cases a <;> cases b <;> first
      | (unfold isP at ha; cases ha; done)
      | (unfold isP at hb; cases hb; done)
      | (unfold toP eqB PyData.eqv; rfl)
  | succ n ih =>
    intro a b ha hb
    cases e1 : lstE st (.v a) with
    | some as =>
      obtain ⟨a1, a2⟩ := lst_toP ha e1
      cases e2 : lstE st (.v b) with
      | some bs =>
        obtain ⟨b1, b2⟩ := lst_toP hb e2
        rw [a2, b2]
        have q : eqB (n + 1) st a b = eqs (eqB n st) as bs := by
          cases a <;> cases b <;> first | (cases e1; done) | (cases e2; done) | (unfold eqB; rw [e1, e2])
        rw [q]
        unfold PyData.eqv
        exact eqs_eqv ih as bs a1 b1
      | none =>
        rw [a2]
        have q : eqB (n + 1) st a b = false := by
          cases a <;> first | (cases e1; done) | (cases b <;> (unfold eqB; rw [e1, e2]))
        rw [q]
        cases b <;> first
          | (cases e2; done)
          | (unfold toP PyData.eqv; rfl)
          | (obtain ⟨es, e', _⟩ := isP_ref hb; rw [show items st (.v (.ref _)) = none from e2] at e'; cases e')
    | none =>
      cases e2 : lstE st (.v b) with
      | some bs =>
        obtain ⟨b1, b2⟩ := lst_toP hb e2
        rw [b2]
        have q : eqB (n + 1) st a b = false := by
          cases b <;> first | (cases e2; done) | (cases a <;> (unfold eqB; rw [e1, e2]))
        rw [q]
        cases a <;> first
          | (cases e1; done)
          | (unfold toP PyData.eqv; rfl)
          | (obtain ⟨es, e', _⟩ := isP_ref ha; rw [show items st (.v (.ref _)) = none from e1] at e'; cases e')
      | none =>
        cases a with
        | ro _ => cases e1
        | ref _ => obtain ⟨es, e', _⟩ := isP_ref ha; rw [show items st (.v (.ref _)) = none from e1] at e'; cases e'
        | tup as =>
          cases b with
          | ro _ => cases e2
          | ref _ => obtain ⟨es, e', _⟩ := isP_ref hb; rw [show items st (.v (.ref _)) = none from e2] at e'; cases e'
          | tup bs =>
            unfold isP at ha hb
            unfold toP eqB PyData.eqv
            exact eqs_eqv ih as bs ha hb
          | _ => unfold toP eqB PyData.eqv; rfl
        | _ =>
          cases b with
          | ro _ => cases e2
          | ref _ => obtain ⟨es, e', _⟩ := isP_ref hb; rw [show items st (.v (.ref _)) = none from e2] at e'; cases e'
          | _ => unfold toP eqB PyData.eqv; rfl
/-- the data of a value, at depth 51 -/
def toE (st : Store) : Ev → PyData
  | .v d => toP 50 st d
  | .t ds => .list (toPs 49 st ds)
theorem shaped_of {d : PyData} (h : d.canLay0 = true) (z : d.depth ≤ 64) : SeqAt.shaped d = true := by
  unfold SeqAt.shaped
  rw [h, decide_eq_true z] <;> rfl
theorem isPE_dp (S : Sim K mg r st H) (h : isPE st x = true) (q : RelEv K r H0 H x v) : Dp K H v (toE st x) ∧ SeqAt.shaped (toE st x) = true := by
  cases x with
  | v d =>
    obtain ⟨a, b, c⟩ := isP_dp S 50 d v h q
    exact ⟨a, shaped_of b (Nat.le_trans c (by decide))⟩
  | t ds =>
    obtain ⟨a, xs, rfl, _, _, h4, h5⟩ := q
    obtain ⟨b1, b2, b3⟩ := isPs_dp (isP_dp S 49) ds xs h h5
    refine ⟨.lst (.inl (.inl h4)) b1, shaped_of ?_ ?_⟩
    · unfold toE; simpa [PyData.canLay0] using b2
    · unfold toE; simp only [PyData.depth]; omega
theorem toP_lst {n k : Nat} {ds : List D} (e : items st (.v (.ref k)) = some ds) : toP (n + 1) st (.ref k) = .list (toPs n st ds) := by unfold toP; rw [e]
theorem eqS_ok {a b : D} {c : Bool} (h : eqS a b = some c) (ha : Rel K r H a v) (hb : Rel K r H b w) : scal v w = true ∧ decide (v = w) = c := by
  cases a <;> cases b <;> unfold eqS at h <;> cases h <;> unfold Rel at ha hb <;> subst ha <;> subst hb <;> first
    | exact ⟨rfl, rfl⟩
    | exact ⟨rfl, by simp⟩
theorem isPE_lst {ds : List D} (h : isPE st x = true) (e : lstE st x = some ds) : ds.all (isP 49 st) = true ∧ toE st x = .list (toPs 49 st ds) := by
  cases x with
  | t es => cases (show some es = some ds from e); exact ⟨h, rfl⟩
  | v d => exact lst_toP (n := 49) h e
theorem isPE_nl {ds : List D} (h : isPE st x = true) (e : lstE st x = none) (l : List PyData) : PyData.eqv (.list l) (toE st x) = false ∧ PyData.eqv (toE st x) (.list l) = false := by
  cases x with
  | t es => cases e
  | v d =>
    cases d with
    | ref k =>
      obtain ⟨es, e', h2⟩ := isP_ref (n := 49) h
      have e2 : items st (.v (.ref k)) = none := e
      rw [e'] at e2; cases e2
    | ro _ => cases e
    | _ => unfold toE toP PyData.eqv; exact ⟨rfl, rfl⟩
theorem eqE_ok (S : Sim K mg r st H) {c : Bool} (h : eqE x y st = some c) (hx : RelEv K r H0 H x v) (hy : RelEv K r H' H y w) :
    (scal v w = true ∧ decide (v = w) = c) ∨ (Dp K H v (toE st x) ∧ Dp K H w (toE st y) ∧ SeqAt.shaped (toE st x) = true ∧ SeqAt.shaped (toE st y) = true ∧ PyData.eqv (toE st x) (toE st y) = c) := by
  unfold eqE at h
  split at h
  · rename_i c' e
    cases h
    split at e
    · exact .inl (eqS_ok e hx hy)
    · cases e
  · split at h
    · rename_i hp
      obtain ⟨hp1, hp2⟩ := Bool.and_eq_true_iff.mp hp
      obtain ⟨d1, s1⟩ := isPE_dp S hp1 hx
      obtain ⟨d2, s2⟩ := isPE_dp S hp2 hy
      refine .inr ⟨d1, d2, s1, s2, ?_⟩
      cases e1 : lstE st x with
      | some as =>
        obtain ⟨a1, a2⟩ := isPE_lst hp1 e1
        cases e2 : lstE st y with
        | some bs =>
          obtain ⟨b1, b2⟩ := isPE_lst hp2 e2
          rw [e1, e2] at h
          cases h
          rw [a2, b2]
          unfold PyData.eqv
          exact (eqs_eqv (eqB_eqv 49) as bs a1 b1).symm
        | none =>
          rw [e1, e2] at h
          cases h
          rw [a2]
          exact (isPE_nl (ds := []) hp2 e2 _).1
      | none =>
        cases e2 : lstE st y with
        | some bs =>
          obtain ⟨b1, b2⟩ := isPE_lst hp2 e2
          rw [e1, e2] at h
          cases h
          rw [b2]
          exact (isPE_nl (ds := []) hp1 e1 _).2
        | none =>
          rw [e1, e2] at h
          cases x with
          | t _ => cases e1
          | v a =>
            cases y with
            | t _ => cases e2
            | v b =>
              cases h
              exact (eqB_eqv 50 a b hp1 hp2).symm
    · cases h
end
end SI

set_option maxHeartbeats 1000000
/-! SI 4: the operations. -/
namespace SI
open PySem L2
def unb : BOp → Operator
  | .add => .Add | .sub => .Sub | .mul => .Mult | .fdiv => .FloorDiv | .mod => .Mod | .pow => .Pow | .band => .BitAnd | .shr => .RShift
theorem bop_unb {op : Operator} {o : BOp} (h : bop op = some o) : op = unb o := by
  cases op <;> cases h <;> rfl
def unc : COp → CmpOp
  | .eq => .Eq | .ne => .NotEq | .lt => .Lt | .le => .LtE | .gt => .Gt | .ge => .GtE | .is => .Is | .isnot => .IsNot | .isin => .In | .notin => .NotIn
theorem cop_unc {op : CmpOp} {o : COp} (h : cop op = some o) : op = unc o := by
  cases op <;> cases h <;> rfl
theorem small_ok {i j : Int} (h : (small i || small j) = true) : CMul i j := by
  unfold small at h
  rcases Bool.or_eq_true_iff.mp h with h | h
  · exact .inl (by simpa using h)
  · exact .inr (by simpa using h)
section
variable {X : Cx} {r : List Addr} {H H0 H1 : Hp} {st : Store} {mg : Str → Option Value}
theorem rel_int {i : Int} {v : V} (h : RelEv X.K r H0 H (.v (.int i)) v) : v = .int i := by unfold RelEv Rel at h; exact h
theorem rel_bl {i : Bool} {v : V} (h : RelEv X.K r H0 H (.v (.bl i)) v) : v = .bl i := by unfold RelEv Rel at h; exact h
theorem rel_str {i : Str} {v : V} (h : RelEv X.K r H0 H (.v (.str i)) v) : v = .str i := by unfold RelEv Rel at h; exact h
theorem rel_non {v : V} (h : RelEv X.K r H0 H (.v .non) v) : v = .non := by unfold RelEv Rel at h; exact h
theorem rel_int' {i : Int} : RelEv X.K r H0 H (.v (.int i)) (.int i) := by unfold RelEv Rel; rfl
theorem rel_bl' {i : Bool} : RelEv X.K r H0 H (.v (.bl i)) (.bl i) := by unfold RelEv Rel; rfl
theorem rel_str' {i : Str} : RelEv X.K r H0 H (.v (.str i)) (.str i) := by unfold RelEv Rel; rfl
theorem rel_non' : RelEv X.K r H0 H (.v .non) .non := by unfold RelEv Rel; rfl
/-- what is wanted of a value and the heap behind -/
abbrev Wnt (K : Frag) (mg : Str → Option Value) (r : List Addr) (H0 H : Hp) (st : Store) (z : Ev) (Q : VK) : Prop := ∀ r' H' v, Up r H r' H' → Sim K mg r' st H' → RelEv K r' H0 H' z v → Q v H'
theorem lstW_ok {x : Ev} {v : V} {ds : List D} (S : Sim X.K mg r st H) (h : RelEv X.K r H0 H x v) (e : lstW st x = some ds) : ∃ a ys, v = .ref a ∧ H a = some (.lst ys) ∧ RelL X.K r H ds ys := by
  cases x with
  | t es =>
    cases e
    obtain ⟨a, ys, h1, _, _, h2, h3⟩ := h
    exact ⟨a, ys, h1, h2, h3⟩
  | v d =>
    cases d with
    | ref n =>
      have e' : (match st[n]? with | some (.lst ds) => some ds | _ => none) = some ds := e
      unfold RelEv Rel at h
      cases q : st[n]? with
      | none => rw [q] at e'; cases e'
      | some c =>
        rw [q] at e'
        cases c with
        | ins _ _ => cases e'
        | dic _ _ => cases e'
        | lst l =>
          cases e'
          obtain ⟨a, h1, h2⟩ := S.at q
          obtain ⟨b, h3, h4⟩ := h
          rw [h1] at h3
          cases h3
          obtain ⟨ys, h5, h6⟩ := h2
          exact ⟨_, ys, h4, h5, h6⟩
    | _ => cases e
theorem cat_rel {x y z : Ev} {v w : V} {Q : VK} (S : Sim X.K mg r st H) (hx : RelEv X.K r H0 H x v) (hy : RelEv X.K r H1 H y w) (e : catD x y st = some z) (q : ∀ r' H' v, Up r H r' H' → Sim X.K mg r' st H' → RelEv X.K r' H H' z v → Q v H') : rCat v w H Q := by
  unfold catD at e
  split at e
  · rename_i xs ys e1 e2
    split at e
    · rename_i hl
      cases e
      obtain ⟨a, us, rfl, ha, hu⟩ := lstW_ok S hx e1
      obtain ⟨b, ws, rfl, hb, hw⟩ := lstW_ok S hy e2
      refine ⟨a, b, us, ws, rfl, rfl, ha, hb, ?_, fun p hp => q r _ _ (Up.new hp) (S.new hp) ⟨p, us ++ ws, rfl, hp, S.off hp, upd_same, (Up.new (r := r) hp).relL (hu.append hw)⟩⟩
      rw [← hu.length, ← hw.length, sizeLine_eq]
      unfold lim at hl
      omega
    · cases e
  · cases e
theorem tup_rel {r : List Addr} {H0 H : Hp} {ds : List D} {v : V} (h : RelEv X.K r H0 H (.v (.tup ds)) v) : ∃ a xs, v = .ref a ∧ H a = some (.tup xs) ∧ RelL X.K r H ds xs := by
  unfold RelEv Rel at h; exact h
theorem rel_tup {K : Frag} {r : List Addr} {H0 H : Hp} {ds : List D} {p : Addr} {vs : List V} (h : RelL K r H ds vs) (q : H p = some (.tup vs)) : RelEv K r H0 H (.v (.tup ds)) (.ref p) := by
  unfold RelEv Rel
  exact ⟨p, vs, rfl, q, h⟩
theorem catT_rel {xs ys : List D} {v w : V} {Q : VK} (S : Sim X.K mg r st H) (hx : RelEv X.K r H0 H (.v (.tup xs)) v) (hy : RelEv X.K r H1 H (.v (.tup ys)) w) (hl : xs.length + ys.length < lim)
    (q : ∀ r' H' v, Up r H r' H' → Sim X.K mg r' st H' → RelEv X.K r' H H' (.v (.tup (xs ++ ys))) v → Q v H') : rCatA X.K v w H Q := by
  obtain ⟨a, us, rfl, ha, hu⟩ := tup_rel hx
  obtain ⟨b, ws, rfl, hb, hw⟩ := tup_rel hy
  have l1 := hu.length
  have l2 := hw.length
  refine ⟨a, b, us, ws, rfl, rfl, .inl (.inl ha), .inl (.inl hb), by rw [← l1, ← l2, sizeLine_eq]; unfold lim at hl; omega, fun e => ?_, fun _ e => ?_, fun _ _ p hp => ?_⟩
  · subst e
    have : xs = [] := List.eq_nil_of_length_eq_zero l1
    subst this
    exact q r H _ (Up.refl r H) S (rel_tup hw hb)
  · subst e
    have : ys = [] := List.eq_nil_of_length_eq_zero l2
    subst this
    exact q r H _ (Up.refl r H) S (rel_tup (by simpa using hu) ha)
  · exact q r _ _ (Up.new hp) (S.new hp) (rel_tup ((Up.new (r := r) hp).relL (hu.append hw)) upd_same)
theorem bin_ok (op : BOp) : ∃ rr : R2, OpR X (binaryOp (unb op)) rr ∧ ∀ {r : List Addr} {st : Store} {H0 H1 H : Hp} {x y z : Ev} {v w : V} {Q : VK}, Sim X.K mg r st H → RelEv X.K r H0 H x v → RelEv X.K r H1 H y w → binD op x y st = some z →
    (∀ r' H' v, Up r H r' H' → Sim X.K mg r' st H' → RelEv X.K r' H H' z v → Q v H') → rr v w H Q := by
  cases op with
  | add =>
    refine ⟨_, op_add.or (op_add_str.or (op_cat.or op_catA)), fun {r st H0 H1 H x y z v w Q} S hx hy e q => ?_⟩
    unfold binD at e
    split at e <;> simp_all only [reduceCtorEq, Option.some.injEq]
    · subst e
      rw [rel_int hx, rel_int hy]
      exact .inl ⟨_, _, rfl, rfl, q r H _ (Up.refl r H) S rel_int'⟩
    · split at e <;> simp_all only [reduceCtorEq, Option.some.injEq]
      rename_i hl
      subst e
      rw [rel_str hx, rel_str hy]
      exact .inr (.inl ⟨_, _, rfl, rfl, by rw [sizeLine_eq]; unfold lim at hl; omega, q r H _ (Up.refl r H) S rel_str'⟩)
    · split at e <;> simp_all only [reduceCtorEq, Option.some.injEq]
      rename_i hl
      subst e
      exact .inr (.inr (.inr (catT_rel S hx hy hl q)))
    · exact .inr (.inr (.inl (cat_rel S hx hy e q)))
  | sub =>
    refine ⟨_, op_sub, fun {r st H0 H1 H x y z v w Q} S hx hy e q => ?_⟩
    unfold binD at e
    split at e <;> simp_all only [reduceCtorEq, Option.some.injEq]
    subst e
    rw [rel_int hx, rel_int hy]
    exact ⟨_, _, rfl, rfl, q r H _ (Up.refl r H) S rel_int'⟩
  | mul =>
    refine ⟨_, op_mul.or op_mulW, fun {r st H0 H1 H x y z v w Q} S hx hy e q => ?_⟩
    unfold binD at e
    split at e <;> simp_all only [reduceCtorEq]
    split at e <;> simp_all only [reduceCtorEq, Option.some.injEq]
    rename_i hs
    subst e
    rw [rel_int hx, rel_int hy]
    rcases Bool.or_eq_true_iff.mp hs with hs | hs
    · exact .inl ⟨_, _, rfl, rfl, small_ok hs, q r H _ (Up.refl r H) S rel_int'⟩
    · exact .inr ⟨_, _, rfl, rfl, wide_mul (a := 1000) (b := 1000) (of_decide_eq_true (Bool.and_eq_true_iff.mp hs).1) (of_decide_eq_true (Bool.and_eq_true_iff.mp hs).2) (by decide) (by decide) (by decide), q r H _ (Up.refl r H) S rel_int'⟩
  | fdiv =>
    refine ⟨_, op_fdivW, fun {r st H0 H1 H x y z v w Q} S hx hy e q => ?_⟩
    unfold binD at e
    split at e <;> simp_all only [reduceCtorEq]
    split at e <;> simp_all only [reduceCtorEq, Option.some.injEq]
    rename_i hs
    subst e
    rw [rel_int hx, rel_int hy]
    exact ⟨_, _, rfl, rfl, wide_div (b := 1000) hs.1 (of_decide_eq_true hs.2) (by decide) (by decide), q r H _ (Up.refl r H) S rel_int'⟩
  | mod =>
    refine ⟨_, op_mod, fun {r st H0 H1 H x y z v w Q} S hx hy e q => ?_⟩
    unfold binD at e
    split at e <;> simp_all only [reduceCtorEq]
    split at e <;> simp_all only [reduceCtorEq, Option.some.injEq]
    rename_i hs
    subst e
    rw [rel_int hx, rel_int hy]
    exact ⟨_, _, rfl, rfl, hs, q r H _ (Up.refl r H) S rel_int'⟩
  | pow =>
    refine ⟨_, op_pow, fun {r st H0 H1 H x y z v w Q} S hx hy e q => ?_⟩
    unfold binD at e
    split at e <;> simp_all only [reduceCtorEq]
    split at e <;> simp_all only [reduceCtorEq, Option.some.injEq]
    rename_i hs
    subst e
    rw [rel_int hx, rel_int hy]
    exact ⟨_, _, rfl, rfl, hs, q r H _ (Up.refl r H) S rel_int'⟩
  | shr =>
    refine ⟨_, op_shr, fun {r st H0 H1 H x y z v w Q} S hx hy e q => ?_⟩
    unfold binD at e
    split at e <;> simp_all only [reduceCtorEq]
    split at e <;> simp_all only [reduceCtorEq, Option.some.injEq]
    rename_i hs
    subst e
    rw [rel_int hx, rel_int hy]
    exact ⟨_, _, rfl, rfl, hs, q r H _ (Up.refl r H) S rel_int'⟩
  | band =>
    refine ⟨_, op_and, fun {r st H0 H1 H x y z v w Q} S hx hy e q => ?_⟩
    unfold binD at e
    split at e <;> simp_all only [reduceCtorEq, Option.some.injEq]
    subst e
    rw [rel_int hx, rel_int hy]
    exact ⟨_, _, rfl, rfl, q r H _ (Up.refl r H) S rel_int'⟩
def isNonE : Ev → Bool
  | .v .non => true
  | _ => false
theorem rel_isnon {x : Ev} {v : V} (h : RelEv X.K r H0 H x v) : decide (v = .non) = isNonE x := by
  cases x with
  | v d =>
    cases d with
    | non => rw [rel_non h]; rfl
    | bl b => rw [rel_bl h]; rfl
    | int b => rw [rel_int h]; rfl
    | str b => rw [rel_str h]; rfl
    | ref b => unfold RelEv Rel at h; obtain ⟨a, _, rfl⟩ := h; rfl
    | tup b => unfold RelEv Rel at h; obtain ⟨a, _, rfl, _⟩ := h; rfl
    | ro b => unfold RelEv Rel at h; obtain ⟨a, _, rfl, _⟩ := h; rfl
  | t ds => unfold RelEv at h; obtain ⟨a, _, rfl, _⟩ := h; rfl
theorem is_sh {x y : Ev} {c : Bool} (e : cmpD .is x y st = some c) : y = .v .non ∧ c = isNonE x := by
  cases y with
  | t _ => cases x with
    | t _ => cases e
    | v d => cases d <;> cases e
  | v b => cases b with
    | non => cases x with
      | t _ => cases e; exact ⟨rfl, rfl⟩
      | v d => cases d <;> cases e <;> exact ⟨rfl, rfl⟩
    | _ => cases x with
      | t _ => cases e
      | v d => cases d <;> cases e
theorem isnot_sh {x y : Ev} {c : Bool} (e : cmpD .isnot x y st = some c) : y = .v .non ∧ c = !isNonE x := by
  cases y with
  | t _ => cases x with
    | t _ => cases e
    | v d => cases d <;> cases e
  | v b => cases b with
    | non => cases x with
      | t _ => cases e; exact ⟨rfl, rfl⟩
      | v d => cases d <;> cases e <;> exact ⟨rfl, rfl⟩
    | _ => cases x with
      | t _ => cases e
      | v d => cases d <;> cases e
theorem opR_never {f : Value → Value → Sem Value} : OpR X f (fun _ _ _ _ => False) := fun _ _ _ _ _ _ _ _ _ _ _ _ h => h.elim
theorem lex_ord {rel : Int → Int → Bool} {z : Nat → Nat → Bool} (hz : ∀ i j, z (i + 1) (j + 1) = z i j) : ∀ (ns ms : List Int) (ns0 ms0 : List Int) (i : Nat), (∀ j, ns0.getD (i + j) 0 = ns.getD j 0) → (∀ j, ms0.getD (i + j) 0 = ms.getD j 0) →
    Ob.lexAt (fun j => decide (ns0.getD j 0 = ms0.getD j 0)) (fun j => rel (ns0.getD j 0) (ms0.getD j 0)) (z ns.length ms.length) i (min ns.length ms.length) = ordT rel z ns ms
  | [], ms, ns0, ms0, i, h1, h2 => by
    rw [show min ([] : List Int).length ms.length = 0 by simp, Ob.lexAt_zero]
    cases ms <;> rfl
  | x :: xs, [], ns0, ms0, i, h1, h2 => by
    rw [show min (x :: xs).length ([] : List Int).length = 0 by simp, Ob.lexAt_zero]
    rfl
  | x :: xs, y :: ys, ns0, ms0, i, h1, h2 => by
    rw [show min (x :: xs).length (y :: ys).length = min xs.length ys.length + 1 by simp only [List.length_cons]; omega, Ob.lexAt_succ]
    have a1 : ns0.getD i 0 = x := h1 0
    have a2 : ms0.getD i 0 = y := h2 0
    have ih := lex_ord (rel := rel) hz xs ys ns0 ms0 (i + 1) (fun j => by rw [show i + 1 + j = i + (j + 1) by omega]; exact h1 (j + 1)) (fun j => by rw [show i + 1 + j = i + (j + 1) by omega]; exact h2 (j + 1))
    simp only [a1, a2, decide_eq_true_eq]
    unfold ordT
    rw [show z (x :: xs).length (y :: ys).length = z xs.length ys.length from hz _ _]
    split
    · exact ih
    · rfl
/-- two tuples of whole numbers -/
def rOrd (K : Frag) (rel : Int → Int → Bool) (z : Nat → Nat → Bool) : R2 := fun x y H Q => ∃ (a b : Addr) (ns ms : List Int), x = .ref a ∧ y = .ref b ∧ SqT K H a (ns.map V.int) ∧ SqT K H b (ms.map V.int) ∧ Q (.bl (ordT rel z ns ms)) H
/-- the model's comparison of two tuples, by what it gives of each pair -/
def TupOrd (X : Cx) (op : CmpOp) (rel : Int → Int → Bool) (z : Nat → Nat → Bool) : Prop := ∀ (s : Shared) (l b : Addr) (p q : Array Value) (e r : Nat → Bool), s.heap.IsTuple l p → s.heap.IsTuple b q →
  (∀ j (h1 : j < p.size) (h2 : j < q.size), PySem.SeqAt.EqAt X.A.in1 s p[j] q[j] (e j)) → (∀ j (h1 : j < p.size) (h2 : j < q.size), e j = false → Ob.RcOp op X.A.in1 s p[j] q[j] (r j)) → Ob.RcOp op X.A s (.ref l) (.ref b) (Ob.lexAt e r (z p.size q.size) 0 (min p.size q.size))
theorem op_ord {op : CmpOp} {rel : Int → Int → Bool} {z : Nat → Nat → Bool} (hc : compareOp op = richCompare op) (hz : ∀ i j, z (i + 1) (j + 1) = z i j) (ho : TupOrd X op rel z) (hi : ∀ (A : Around) (s : Shared) (i j : Int) (t u : Tok), Ob.RcOp op A s (.int i t) (.int j u) (rel i j)) : OpR X (compareOp op) (rOrd X.K rel z) := by
  intro pins s σ H x y v u Q I rx ry h
  obtain ⟨a, b, ns, ms, rfl, rfl, ha, hb, q⟩ := h
  cases rx
  cases ry
  obtain ⟨p, r1, p1, _⟩ := I.tuple ha
  obtain ⟨p', r2, p2, _⟩ := I.tuple hb
  have i1 := Vals.ints r1
  have i2 := Vals.ints r2
  have R := ho s a b p.toArray p'.toArray (fun j => decide (ns.getD j 0 = ms.getD j 0)) (fun j => rel (ns.getD j 0) (ms.getD j 0)) p1 p2
    (fun j h1 h2 => by
      obtain ⟨t, et⟩ := PyProof.Rows.IntsAre.int_at i1 j p.toArray[j] (by simp at h1; simp [h1])
      obtain ⟨t', et'⟩ := PyProof.Rows.IntsAre.int_at i2 j p'.toArray[j] (by simp at h2; simp [h2])
      rw [et, et', show decide (ns.getD j 0 = ms.getD j 0) = (ns.getD j 0 == ms.getD j 0) by rw [Bool.eq_iff_iff]; simp]
      exact PySem.SeqAt.EqAt.int_int _ _ _ _)
    (fun j h1 h2 _ => by
      obtain ⟨t, et⟩ := PyProof.Rows.IntsAre.int_at i1 j p.toArray[j] (by simp at h1; simp [h1])
      obtain ⟨t', et'⟩ := PyProof.Rows.IntsAre.int_at i2 j p'.toArray[j] (by simp at h2; simp [h2])
      rw [et, et']
      exact hi _ _ _ _ _ _)
  have z1 : p.toArray.size = ns.length := (List.size_toArray ..).trans i1.length
  have z2 : p'.toArray.size = ms.length := (List.size_toArray ..).trans i2.length
  rw [z1, z2, lex_ord hz ns ms ns ms 0 (fun j => by rw [Nat.zero_add]) (fun j => by rw [Nat.zero_add])] at R
  rw [hc]
  exact R X.prog X.w X.xe (EP X pins σ Q) ⟨.bl _, H, I, rfl, q⟩
theorem ints_rel {ds : List D} {ns : List Int} : ∀ {vs : List V}, intsOf ds = some ns → RelL X.K r H ds vs → vs = ns.map V.int := by
  induction ds generalizing ns with
  | nil => intro vs e h; cases e; exact h
  | cons d ds ih =>
    intro vs e h
    obtain ⟨v, ws, rfl, h1, h2⟩ := h
    unfold intsOf at e
    split at e
    · rename_i e2
      cases e2
    · rename_i i r2 e2
      cases e2
      cases q : intsOf ds with
      | none => rw [q] at e; cases e
      | some l =>
        rw [q] at e
        cases e
        rw [ih q h2]
        unfold Rel at h1
        rw [h1]; rfl
    · cases e
theorem ord_rel {rel : Int → Int → Bool} {z : Nat → Nat → Bool} {xs ys : List D} {c : Bool} {v w : V} {Q : VK} (hx : RelEv X.K r H0 H (.v (.tup xs)) v) (hy : RelEv X.K r H1 H (.v (.tup ys)) w) (e : ordD rel z xs ys = some c) (q : Q (.bl c) H) : rOrd X.K rel z v w H Q := by
  unfold RelEv Rel at hx hy
  obtain ⟨a, vs, rfl, ha, hvs⟩ := hx
  obtain ⟨b, ws, rfl, hb, hws⟩ := hy
  unfold ordD at e
  split at e
  · rename_i ns ms e1 e2
    cases e
    rw [ints_rel e1 hvs] at ha
    rw [ints_rel e2 hws] at hb
    exact ⟨a, b, ns, ms, rfl, rfl, .inl (.inl ha), .inl (.inl hb), q⟩
  · cases e
/-- what a dict says of a key, or of None -/
def DHas (H : Hp) (y x : V) (b : Bool) : Prop := ∃ a, x = .ref a ∧ ((∃ o, DGet H a y o ∧ b = o.isSome) ∨ (y = .non ∧ b = false ∧ ∃ kvs, Rd H a (.dK kvs)))
def rHas (neg : Bool) : R2 := fun y x H Q => ∃ b, DHas H y x b ∧ Q (.bl (if neg then !b else b)) H
theorem op_dictIn (hu : X.A.units + 1 < cLine) : OpR X (compareOp .In) (fun y x H Q => ∃ b, DHas H y x b ∧ Q (.bl b) H) := by
  intro pins s σ H y x u v Q I ry rx h
  obtain ⟨b, ⟨a, rfl, h⟩, q⟩ := h
  cases rx
  rcases h with ⟨o, g, rfl⟩ | ⟨rfl, rfl, kvs, hk⟩
  · exact d_in hu I g ry fun s' I' => ⟨.bl _, H, I', rfl, q⟩
  · cases ry
    exact d_inNone I hk fun s' I' => ⟨.bl _, H, I', rfl, q⟩
theorem op_dictNotIn (hu : X.A.units + 1 < cLine) : OpR X (compareOp .NotIn) (fun y x H Q => ∃ b, DHas H y x b ∧ Q (.bl (!b)) H) := by
  intro pins s σ H y x u v Q I ry rx h
  obtain ⟨b, ⟨a, rfl, h⟩, q⟩ := h
  cases rx
  rcases h with ⟨o, g, rfl⟩ | ⟨rfl, rfl, kvs, hk⟩
  · exact d_notIn hu I g ry fun s' I' => ⟨.bl _, H, I', rfl, q⟩
  · cases ry
    exact d_notInNone I hk fun s' I' => ⟨.bl _, H, I', rfl, q⟩
theorem dkey_rel {d : D} {k : L2.Key} {v : V} {K : Frag} (h : Rel K r H d v) (e : dkey d = some k) : v = kV k := by
  cases d <;> cases e <;> (unfold Rel at h; exact h)
theorem flat_rel {d : D} {v : V} {K : Frag} (h : Rel K r H d v) (e : flatD d = true) : flatV v = true := by
  cases d <;> first | (cases e; done) | (unfold Rel at h; subst h; rfl)
theorem flats_rel {K : Frag} : ∀ {ds : List D} {vs : List V}, RelL K r H ds vs → ds.all flatD = true → vs.all flatV = true
  | [], vs, h, _ => by rw [h.unnil]; rfl
  | d :: ds, vs, h, e => by
    obtain ⟨v, ws, rfl, h1, h2⟩ := h.uncons
    obtain ⟨e1, e2⟩ := all_cons e
    simp only [List.all_cons, flat_rel h1 e1, flats_rel h2 e2, Bool.and_self]
theorem eq0_rel {d e : D} {v w : V} {K : Frag} (h : Rel K r H d v) (g : Rel K r H e w) (f1 : flatD d = true) (f2 : flatD e = true) : eqB 0 st d e = eqV v w := by
  cases d <;> cases e <;> first | (cases f1; done) | (cases f2; done) | (unfold Rel at h g; subst h; subst g; unfold eqB; rfl)
theorem any0_rel {K : Frag} {x : D} {v : V} (g : Rel K r H x v) (f : flatD x = true) : ∀ {ds : List D} {vs : List V}, RelL K r H ds vs → ds.all flatD = true → (ds.any fun z => eqB 0 st z x) = inV v vs
  | [], vs, h, _ => by rw [h.unnil]; rfl
  | d :: ds, vs, h, e => by
    obtain ⟨w, ws, rfl, h1, h2⟩ := h.uncons
    obtain ⟨e1, e2⟩ := all_cons e
    have ih := any0_rel g f h2 e2
    unfold inV at *
    simp only [List.any_cons, ih, eq0_rel (st := st) h1 g e1 f]
theorem toPs_map {n : Nat} : ∀ ds : List D, toPs n st ds = ds.map (toP n st)
  | [] => by unfold toPs; rfl
  | d :: ds => by unfold toPs; rw [toPs_map ds]; rfl
theorem anyD_rel {n : Nat} {x : D} (hx : isP n st x = true) : ∀ ds : List D, ds.all (isP n st) = true → (ds.any fun z => eqB n st z x) = ((toPs n st ds).any fun z => PyData.eqv z (toP n st x))
  | [], _ => by unfold toPs; rfl
  | d :: ds, e => by
    obtain ⟨e1, e2⟩ := all_cons e
    unfold toPs
    simp only [List.any_cons, anyD_rel hx ds e2, eqB_eqv n d x e1 hx]
theorem inD_ok {x y : Ev} {v w : V} {c : Bool} (S : Sim X.K mg r st H) (e : inD x y st = some c) (hx : RelEv X.K r H0 H x v) (hy : RelEv X.K r H1 H y w) :
    (∃ (k : Nat) (z : Str), v = .str ⟨#[k]⟩ ∧ w = .str z ∧ c = decide (k ∈ z.cps.toList)) ∨ (∃ p xs, w = .ref p ∧ (SqL X.K H p xs ∨ SqT X.K H p xs) ∧ flatV v = true ∧ xs.all flatV = true ∧ c = inV v xs) ∨
    (∃ d ds, Dp X.K H v d ∧ Dp X.K H w (.list ds) ∧ SeqAt.shaped d = true ∧ SeqAt.shaped (.list ds) = true ∧ c = (ds.any fun z => PyData.eqv z d)) ∨ DHas H v w c := by
  have seq : ∀ d, x = .v d → (match dicE st y with
      | some kvs => (match d with
        | .non => some false
        | d => (dkey d).map fun k => (dGet kvs k).isSome)
      | none => (match items st y with
        | some ds => memD st y d ds
        | none => none)) = some c → (∃ p xs, w = .ref p ∧ (SqL X.K H p xs ∨ SqT X.K H p xs) ∧ flatV v = true ∧ xs.all flatV = true ∧ c = inV v xs) ∨
    (∃ d ds, Dp X.K H v d ∧ Dp X.K H w (.list ds) ∧ SeqAt.shaped d = true ∧ SeqAt.shaped (.list ds) = true ∧ c = (ds.any fun z => PyData.eqv z d)) ∨ DHas H v w c := by
    rintro d rfl e
    have hd : Rel X.K r H d v := hx
    cases ed : dicE st y with
    | some kvs =>
      rw [ed] at e
      obtain ⟨a, kw, rfl, hk, hr⟩ := dicE_ok S hy ed
      refine .inr (.inr ⟨a, rfl, ?_⟩)
      have key : ∀ k, dkey d = some k → (dGet kvs k).isSome = c → ∃ o, DGet H a v o ∧ c = o.isSome := fun k e1 e2 => by
        refine ⟨_, .inl ⟨kw, k, hk, dkey_rel hd e1, rfl⟩, ?_⟩
        obtain ⟨g1, g2⟩ := hr.get k
        cases q : dGet kvs k with
        | none => rw [g2 q, ← e2, q]; rfl
        | some d' => obtain ⟨u, g3, _⟩ := g1 d' q; rw [g3, ← e2, q]; rfl
      cases d with
      | non => cases e; exact .inr ⟨by unfold Rel at hd; exact hd, rfl, kw, hk⟩
      | int i => exact .inl (key _ rfl (by simpa [dkey] using e))
      | str i => exact .inl (key _ rfl (by simpa [dkey] using e))
      | _ => cases e
    | none =>
      rw [ed] at e
      simp only at e
      cases ei : items st y with
      | none => rw [ei] at e; cases e
      | some ds =>
        rw [ei] at e
        simp only at e
        unfold memD at e
        split at e
        · rename_i hf
          obtain ⟨f1, f2⟩ := Bool.and_eq_true_iff.mp hf
          cases e
          obtain ⟨a, xs, rfl, hq, hr⟩ := items_ok S hy ei
          exact .inl ⟨a, xs, rfl, hq, flat_rel hd f1, flats_rel hr f2, any0_rel hd f1 hr f2⟩
        · split at e
          · rename_i hp
            obtain ⟨p0, hp⟩ := Bool.and_eq_true_iff.mp hp
            obtain ⟨p1, p2⟩ := Bool.and_eq_true_iff.mp hp
            cases e
            obtain ⟨ds', el⟩ := Option.isSome_iff_exists.mp p0
            have e1 : ds' = ds := by
              cases y with
              | t es => cases el; cases ei; rfl
              | v z => cases z <;> first | (cases el; done) | (cases el; cases ei; rfl) | (have el' : items st (.v (.ref _)) = some ds' := el; rw [ei] at el'; cases el'; rfl)
            subst e1
            obtain ⟨a, xs, rfl, hq, hr⟩ := lstE_ok S hy el
            obtain ⟨b1, b2, b3⟩ := isP_dp S 49 d v p1 hd
            obtain ⟨c1, c2, c3⟩ := isPs_dp (isP_dp S 49) ds' xs p2 hr
            refine .inr (.inl ⟨_, _, b1, .lst hq c1, shaped_of b2 (Nat.le_trans b3 (by decide)), shaped_of (by simpa [PyData.canLay0] using c2) (by simp only [PyData.depth]; omega), anyD_rel p1 ds' p2⟩)
          · cases e
  unfold inD at e
  split at e
  · rename_i a z
    split at e
    · rename_i k ek
      cases e
      refine .inl ⟨k, z, ?_, rel_str hy, rfl⟩
      rw [rel_str hx]
      obtain ⟨cps⟩ := a
      have : cps = #[k] := by
        have h2 : cps.toList = [k] := ek
        have : cps = (cps.toList).toArray := by simp
        rw [this, h2]
      rw [this]
    · cases e
  · rename_i d _
    exact .inr (seq d rfl e)
  · cases e
theorem cmp_ok (hu : X.A.units + 65 < cLine) (op : COp) : ∃ rr : R2, OpR X (compareOp (unc op)) rr ∧ ∀ {r : List Addr} {st : Store} {H0 H1 H : Hp} {x y : Ev} {c : Bool} {v w : V} {Q : VK}, Sim X.K mg r st H → RelEv X.K r H0 H x v → RelEv X.K r H1 H y w → cmpD op x y st = some c →
    Q (.bl c) H → rr v w H Q := by
  cases op with
  | eq =>
    refine ⟨_, op_eq.or (op_eqD (Nat.lt_of_le_of_lt (by omega) hu)), fun {r st H0 H1 H x y c v w Q} S hx hy e q => ?_⟩
    rcases eqE_ok S (show eqE x y st = some c from e) hx hy with ⟨h1, h2⟩ | ⟨h1, h2, h3, h4, h5⟩
    · exact .inl ⟨h1, by rw [h2]; exact q⟩
    · exact .inr ⟨_, _, h1, h2, h3, h4, by rw [h5]; exact q⟩
  | ne =>
    refine ⟨_, op_ne.or (op_neD (Nat.lt_of_le_of_lt (by omega) hu)), fun {r st H0 H1 H x y c v w Q} S hx hy e q => ?_⟩
    have e' : (eqE x y st).map not = some c := e
    cases e2 : eqE x y st with
    | none => rw [e2] at e'; cases e'
    | some b =>
      rw [e2] at e'
      cases e'
      rcases eqE_ok S e2 hx hy with ⟨h1, h2⟩ | ⟨h1, h2, h3, h4, h5⟩
      · exact .inl ⟨h1, by rw [h2]; exact q⟩
      · exact .inr ⟨_, _, h1, h2, h3, h4, by rw [h5]; exact q⟩
  | lt =>
    refine ⟨_, (op_lt.or op_lt_str).or (op_ord (rel := fun i j => decide (i < j)) (z := fun i j => decide (i < j)) rfl (fun i j => by congr 1; exact propext ⟨fun _ => by omega, fun _ => by omega⟩) (fun s l b p q e r h1 h2 h3 h4 => Ob.RcOp.tuples_lt h1 h2 (by omega) h3 h4) fun A s i j t u => Ob.RcOp.lt_int i j t u), fun {r st H0 H1 H x y c v w Q} S hx hy e q => ?_⟩
    unfold cmpD at e
    split at e <;> simp_all only [reduceCtorEq, Option.some.injEq]
    · rw [rel_int hx, rel_int hy]
      exact .inl (.inl ⟨_, _, rfl, rfl, by subst e; exact q⟩)
    · exact .inr (ord_rel hx hy e q)
    · rw [rel_str hx, rel_str hy]
      exact .inl (.inr ⟨_, _, rfl, rfl, by subst e; exact q⟩)
  | le =>
    refine ⟨_, (op_le.or op_le_str).or (op_ord (rel := fun i j => decide (i ≤ j)) (z := fun i j => decide (i ≤ j)) rfl (fun i j => by congr 1; exact propext ⟨fun _ => by omega, fun _ => by omega⟩) (fun s l b p q e r h1 h2 h3 h4 => Ob.RcOp.tuples_le h1 h2 (by omega) h3 h4) fun A s i j t u => Ob.RcOp.le_int i j t u), fun {r st H0 H1 H x y c v w Q} S hx hy e q => ?_⟩
    unfold cmpD at e
    split at e <;> simp_all only [reduceCtorEq, Option.some.injEq]
    · rw [rel_int hx, rel_int hy]
      exact .inl (.inl ⟨_, _, rfl, rfl, by subst e; exact q⟩)
    · exact .inr (ord_rel hx hy e q)
    · rw [rel_str hx, rel_str hy]
      exact .inl (.inr ⟨_, _, rfl, rfl, by subst e; exact q⟩)
  | gt =>
    refine ⟨_, (op_gt.or op_gt_str).or (op_ord (rel := fun i j => decide (j < i)) (z := fun i j => decide (j < i)) rfl (fun i j => by congr 1; exact propext ⟨fun _ => by omega, fun _ => by omega⟩) (fun s l b p q e r h1 h2 h3 h4 => Ob.RcOp.tuples_gt h1 h2 (by omega) h3 h4) fun A s i j t u => Ob.RcOp.gt_int i j t u), fun {r st H0 H1 H x y c v w Q} S hx hy e q => ?_⟩
    unfold cmpD at e
    split at e <;> simp_all only [reduceCtorEq, Option.some.injEq]
    · rw [rel_int hx, rel_int hy]
      exact .inl (.inl ⟨_, _, rfl, rfl, by subst e; exact q⟩)
    · exact .inr (ord_rel hx hy e q)
    · rw [rel_str hx, rel_str hy]
      exact .inl (.inr ⟨_, _, rfl, rfl, by subst e; exact q⟩)
  | ge =>
    refine ⟨_, (op_ge.or op_ge_str).or (op_ord (rel := fun i j => decide (j ≤ i)) (z := fun i j => decide (j ≤ i)) rfl (fun i j => by congr 1; exact propext ⟨fun _ => by omega, fun _ => by omega⟩) (fun s l b p q e r h1 h2 h3 h4 => Ob.RcOp.tuples_ge h1 h2 (by omega) h3 h4) fun A s i j t u => Ob.RcOp.ge_int i j t u), fun {r st H0 H1 H x y c v w Q} S hx hy e q => ?_⟩
    unfold cmpD at e
    split at e <;> simp_all only [reduceCtorEq, Option.some.injEq]
    · rw [rel_int hx, rel_int hy]
      exact .inl (.inl ⟨_, _, rfl, rfl, by subst e; exact q⟩)
    · exact .inr (ord_rel hx hy e q)
    · rw [rel_str hx, rel_str hy]
      exact .inl (.inr ⟨_, _, rfl, rfl, by subst e; exact q⟩)
  | is =>
    refine ⟨_, op_isN, fun {r st H0 H1 H x y c v w Q} S hx hy e q => ?_⟩
    obtain ⟨rfl, rfl⟩ := is_sh e
    exact ⟨rel_non hy, by rw [rel_isnon hx]; exact q⟩
  | isnot =>
    refine ⟨_, op_notN, fun {r st H0 H1 H x y c v w Q} S hx hy e q => ?_⟩
    obtain ⟨rfl, rfl⟩ := isnot_sh e
    exact ⟨rel_non hy, by rw [rel_isnon hx]; exact q⟩
  | isin =>
    refine ⟨_, op_in_sign.or ((op_in_seq.or (op_inD (Nat.lt_of_le_of_lt (Nat.le_refl _) hu))).or (op_dictIn (Nat.lt_of_le_of_lt (by omega) hu))), fun {r st H0 H1 H x y c v w Q} S hx hy e q => ?_⟩
    rcases inD_ok S (show inD x y st = some c from e) hx hy with ⟨k, z, rfl, rfl, rfl⟩ | ⟨p, xs, rfl, h1, h2, h3, rfl⟩ | ⟨d, ds, h1, h2, h3, h4, rfl⟩ | h
    · exact .inl ⟨k, z, rfl, rfl, q⟩
    · exact .inr (.inl (.inl ⟨p, xs, rfl, h1, h2, h3, q⟩))
    · exact .inr (.inl (.inr ⟨d, ds, h1, h2, h3, h4, q⟩))
    · exact .inr (.inr ⟨c, h, q⟩)
  | notin =>
    refine ⟨_, op_notIn_sign.or ((op_notIn_seq.or (op_notInD (Nat.lt_of_le_of_lt (Nat.le_refl _) hu))).or (op_dictNotIn (Nat.lt_of_le_of_lt (by omega) hu))), fun {r st H0 H1 H x y c v w Q} S hx hy e q => ?_⟩
    have e' : (inD x y st).map not = some c := e
    cases e2 : inD x y st with
    | none => rw [e2] at e'; cases e'
    | some b =>
      rw [e2] at e'
      cases e'
      rcases inD_ok S e2 hx hy with ⟨k, z, rfl, rfl, rfl⟩ | ⟨p, xs, rfl, h1, h2, h3, rfl⟩ | ⟨d, ds, h1, h2, h3, h4, rfl⟩ | h
      · exact .inl ⟨k, z, rfl, rfl, q⟩
      · exact .inr (.inl (.inl ⟨p, xs, rfl, h1, h2, h3, q⟩))
      · exact .inr (.inl (.inr ⟨d, ds, h1, h2, h3, h4, q⟩))
      · exact .inr (.inr ⟨b, h, q⟩)
theorem atI_rel {ds : List D} {xs : List V} {i : Int} {d : D} (h : RelL X.K r H ds xs) (e : atD ds i = some d) : ∃ v, atI xs i = some v ∧ Rel X.K r H d v := by
  unfold atD atI at e
  cases q : ixN ds.length i with
  | none => rw [q] at e; cases e
  | some j =>
    rw [q] at e
    obtain ⟨v, h1, h2⟩ := h.get (i := j) e
    refine ⟨v, ?_, h2⟩
    unfold atI
    rw [← h.length, q]
    exact h1
def rIx (K : Frag) : R2 := fun x y H Q => rIxL K x y H Q ∨ rIxT K x y H Q
theorem ix_ok : IxR X (rIx X.K) := ix_list.or ix_tup
theorem rIx_of {a : Addr} {xs : List V} {i : Int} {v : V} {Q : VK} (h : SqL X.K H a xs ∨ SqT X.K H a xs) (e : atI xs i = some v) (q : Q v H) : rIx X.K (.ref a) (.int i) H Q := by
  rcases h with h | h
  · exact .inl ⟨a, xs, i, v, rfl, rfl, h, e, q⟩
  · exact .inr ⟨a, xs, i, v, rfl, rfl, h, e, q⟩
theorem tru_rel {x : Ev} {v : V} {b : Bool} (S : Sim X.K mg r st H) (h : RelEv X.K r H0 H x v) (e : truD x st = some b) : TruV X.K v H b := by
  have key : ∀ ds, items st x = some ds → b = !ds.isEmpty → TruV X.K v H b := fun ds hi hb => by
    obtain ⟨a, xs, rfl, hq, hr⟩ := items_ok S h hi
    have hl := hr.length
    have he : b = !xs.isEmpty := by
      rw [hb]
      cases ds <;> cases xs <;> simp_all
    rcases hq with hq | hq
    · exact .inl ⟨xs, hq, he⟩
    · exact .inr (.inl ⟨xs, hq, he⟩)
  have gen : ((items st x).map fun ds => !ds.isEmpty) = some b → TruV X.K v H b := fun e => by
    cases q : items st x with
    | none => rw [q] at e; cases e
    | some ds => rw [q] at e; exact key ds q (Option.some.inj e).symm
  cases x with
  | t ds => exact gen e
  | v d =>
    cases d with
    | non => rw [rel_non h]; cases e; rfl
    | bl b => rw [rel_bl h]; cases e; rfl
    | int b => rw [rel_int h]; cases e; rfl
    | str s =>
      rw [rel_str h]
      have e' : (if s.length < lim then some (s.length != 0) else none) = some b := e
      split at e'
      · rename_i hl
        exact ⟨by rw [sizeLine_eq]; unfold lim at hl; omega, (Option.some.inj e').symm.trans (by cases s.length <;> rfl)⟩
      · cases e'
    | ref n => exact gen e
    | tup ds => exact gen e
    | ro ds => exact gen e
end
end SI

set_option maxHeartbeats 1000000
/-! SI 5: readings of results; calls. -/
namespace SI
open PySem L2
/-- an exception that flies: its class, its own fields -/
def ExR (K : Frag) (mg : Str → Option Value) (r : List Addr) (H : Hp) (c : Str) (fs : List (Str × D)) (cls : Value) (od : Option Addr) : Prop :=
  (∃ C, mg c = some (.ref C) ∧ cls = .ref C) ∧ ((fs = [] ∧ od = none) ∨ ∃ d fv, od = some d ∧ H d = some (.xd fv) ∧ RelF K r H fs fv)
def PostR {α : Type} (K : Frag) (mg : Str → Option Value) (r : List Addr) (H : Hp) (x : R α) (ok : α → Store → List Addr → Hp → Prop) (E : XK) : Prop := match x with
  | .ok a st => ∀ r' H', Up r H r' H' → Sim K mg r' st H' → ok a st r' H'
  | .ex c fs st => ∀ r' H' cls od, Up r H r' H' → Sim K mg r' st H' → ExR K mg r' H' c fs cls od → E cls od H'
  | .stuck => False
section
variable {K : Frag} {mg : Str → Option Value} {r r' : List Addr} {H H' : Hp} {E : XK}
theorem PostR.up {α : Type} {x : R α} {ok : α → Store → List Addr → Hp → Prop} (h : PostR K mg r H x ok E) (u : Up r H r' H') : PostR K mg r' H' x ok E := by
  cases x with
  | ok a st => exact fun r2 H2 u2 s => h r2 H2 (u.trans u2) s
  | ex c fs st => exact fun r2 H2 cls od u2 s => h r2 H2 cls od (u.trans u2) s
  | stuck => exact h
theorem PostR.bind {α β : Type} {x : R α} {f : α → Store → R β} {ok : β → Store → List Addr → Hp → Prop} (h : PostR K mg r H (x.bind f) ok E) : PostR K mg r H x (fun a st r1 H1 => PostR K mg r1 H1 (f a st) ok E) E := by
  cases x with
  | ok a st => exact fun r1 H1 u s => PostR.up (x := f a st) h u
  | ex c fs st => exact h
  | stuck => exact h
theorem PostR.mono {α : Type} {x : R α} {ok ok' : α → Store → List Addr → Hp → Prop} (h : PostR K mg r H x ok E) (k : ∀ a st r' H', x = .ok a st → Up r H r' H' → Sim K mg r' st H' → ok a st r' H' → ok' a st r' H') : PostR K mg r H x ok' E := by
  cases x with
  | ok a st => exact fun r1 H1 u s => k a st r1 H1 rfl u s (h r1 H1 u s)
  | ex c fs st => exact h
  | stuck => exact h
theorem PostR.of {α : Type} {o : Option α} {st : Store} {ok : α → Store → List Addr → Hp → Prop} (h : PostR K mg r H (R.of o st) ok E) : ∃ a, o = some a ∧ ∀ r' H', Up r H r' H' → Sim K mg r' st H' → ok a st r' H' := by
  cases o with
  | some a => exact ⟨a, rfl, h⟩
  | none => exact h.elim
end
/-- the slots -/
def EnvR (K : Frag) (r : List Addr) (H : Hp) (env : Env) (σ : L2.St) : Prop := env.length = σ.length ∧ ∀ (i : Nat) d, env[i]? = some (some d) → ∃ v, σ[i]? = some (some v) ∧ Rel K r H d v
theorem EnvR.up {K : Frag} {r r' : List Addr} {H H' : Hp} {env : Env} {σ : L2.St} (h : EnvR K r H env σ) (u : Up r H r' H') : EnvR K r' H' env σ :=
  ⟨h.1, fun i d e => let ⟨v, a, b⟩ := h.2 i d e; ⟨v, a, u.rel b⟩⟩
theorem EnvR.ext {K : Frag} {r r' : List Addr} {H : Hp} {env : Env} {σ : L2.St} (h : EnvR K r H env σ) (u : Ext r r') : EnvR K r' H env σ :=
  ⟨h.1, fun i d e => let ⟨v, a, b⟩ := h.2 i d e; ⟨v, a, Rel.mono u (Tups.refl H) b⟩⟩
theorem EnvR.set {K : Frag} {r : List Addr} {H : Hp} {env : Env} {σ : L2.St} {d : D} {v : V} (h : EnvR K r H env σ) (i : Nat) (q : Rel K r H d v) : EnvR K r H (env.set i (some d)) (σ.set i (some v)) := by
  refine ⟨by simp [h.1], fun j e hj => ?_⟩
  by_cases hij : i = j
  · subst hij
    have hl : i < env.length := by
      have := (List.getElem?_eq_some_iff.mp hj).1
      simpa using this
    rw [List.getElem?_set_self hl] at hj
    cases hj
    exact ⟨v, by rw [List.getElem?_set_self (by rw [← h.1]; exact hl)], q⟩
  · rw [List.getElem?_set_ne hij] at hj ⊢
    exact h.2 j e hj
abbrev Wat (W : WX) (σ : L2.St) : XK := fun c d H => W c d σ H
abbrev OkE (K : Frag) (H : Hp) (Q : VK) : Ev → Store → List Addr → Hp → Prop := fun x _ r' H' => ∀ v, RelEv K r' H H' x v → Q v H'
abbrev OkA (K : Frag) (H : Hp) (Q : List V → Hp → Prop) : List Ev → Store → List Addr → Hp → Prop := fun x _ r' H' => ∀ v, RelEvs K r' H H' x v → Q v H'
abbrev OkT (Q : Bool → Hp → Prop) : Bool → Store → List Addr → Hp → Prop := fun x _ _ H' => Q x H'
/-- readings by the interpreter -/
def rdE (P : Prog) (go : Go) (K : Frag) (mg : Str → Option Value) (W : WX) (e : E) : TE := fun σ H Q => ∃ r env st, EnvR K r H env σ ∧ Sim K mg r st H ∧ PostR K mg r H (evE P go e env st) (OkE K H Q) (Wat W σ)
def rdA (P : Prog) (go : Go) (K : Frag) (mg : Str → Option Value) (W : WX) (e : Es) : TA := fun σ H Q => ∃ r env st, EnvR K r H env σ ∧ Sim K mg r st H ∧ PostR K mg r H (evEs P go e env st) (OkA K H Q) (Wat W σ)
def rdT (P : Prog) (go : Go) (K : Frag) (mg : Str → Option Value) (W : WX) (e : E) : TT := fun σ H Q => ∃ r env st, EnvR K r H env σ ∧ Sim K mg r st H ∧ PostR K mg r H (evT P go e env st) (OkT Q) (Wat W σ)
def rdO (P : Prog) (go : Go) (K : Frag) (mg : Str → Option Value) (W : WX) (e : Option E) : TO := fun σ H Q => ∃ r env st, EnvR K r H env σ ∧ Sim K mg r st H ∧ PostR K mg r H (evO P go e env st) (fun x _ _ H' => Q x H') (Wat W σ)
abbrev RE (P : Prog) (go : Go) (X : Cx) (W : WX) (e : E) : TE := rdE P go X.K X.mg W e
abbrev RA (P : Prog) (go : Go) (X : Cx) (W : WX) (e : Es) : TA := rdA P go X.K X.mg W e
abbrev RT (P : Prog) (go : Go) (X : Cx) (W : WX) (e : E) : TT := rdT P go X.K X.mg W e
abbrev RO (P : Prog) (go : Go) (X : Cx) (W : WX) (e : Option E) : TO := rdO P go X.K X.mg W e
/-- a def's promise -/
def spG (go : Go) (K : Frag) (mg : Str → Option Value) (fn : Fn) : Sp := fun vs H Q E => ∃ r ds st, RelL K r H ds vs ∧ ds.length = fn.np ∧ Sim K mg r st H ∧ PostR K mg r H (go fn ds st) (OkE K H Q) E
/-- how a call fills up -/
def Bnd (K : Frag) (fd : FuncData) (ps : List Str) (fn : Fn) : Prop := ps.length = fn.np ∧ ∀ m, m ≤ fn.np → fn.np ≤ m + fn.dfl.length → ∃ dvs ds, Vals dvs ds ∧ Binds K fd ps ds ∧ ∀ r H, RelL K r H (fn.dfl.drop (m + fn.dfl.length - fn.np)) dvs
/-- an exception's class without an own __init__ -/
structure ExcC (K : Frag) (C : Addr) : Prop where
  x : PySem.W.excIn K C [.type "ValueError", .type "Exception", .type "BaseException", .type "object"] "ValueError.__new__" = true
  k : PySem.W.keepIn K (.ref C) = true
  b : PySem.W.subIn K (.ref C) (.type "BaseException") = some true
  t : PySem.W.typeIn K (.ref C) = some (.type "type")
structure Tab (P : Prog) (pr : Program) (w : World) (K : Frag) (mg : Str → Option Value) (base : Heap) (go : Go) (k : Nat) : Prop where
  fn : ∀ x f, P.fns.lookup (x, none) = some f → ∃ a fd ps, FnOk pr w K mg base (CX pr w) k a fd ps (spG go K mg f) ∧ mg x = some (.ref a) ∧ PySem.W.keepIn K (.ref a) = true ∧ Bnd K fd ps f ∧ (x == ("__debug__" : Str)) = false
  mt : ∀ c m f C, P.fns.lookup (c, some m) = some f → mg c = some (.ref C) → ∃ a fd ps, FnOk pr w K mg base (CX pr w) k a fd ps (spG go K mg f) ∧ Meth K C m a ∧ Bnd K fd ps f ∧ Cls K C
  mkr : ∀ c f, P.fns.lookup (c, some nInit) = some f → ∃ C, mg c = some (.ref C) ∧ (c == ("__debug__" : Str)) = false ∧ ∀ a, Meth K C "__init__" a → Mk K C a
  na : ∀ c f C, flds.contains (c, f) = true → mg c = some (.ref C) → Cls K C ∧ NoAttr K C f
  cs : ∀ x d, P.consts.lookup x = some d → ∃ u v, mg x = some u ∧ RelV v u ∧ ∀ r H, Rel K r H d v
  bi : ∀ x, x ∈ bNames → mg x = none
  ex : ∀ c, P.excs.contains c = true → ∃ C, mg c = some (.ref C) ∧ ExcC K C
structure Good (P : Prog) (go : Go) (k : Nat) (X : Cx) (sc : Scope) (W : WX) : Prop where
  nd : X.N.Nodup
  calm : X.calm = true
  room : Room (k + 1) X.A
  tk : Takes X W
  tab : Tab P X.prog X.w X.K X.mg X.base go k
  fnc : ∀ x, sc.names.lookup x = some .cell → X.fn x = true
  scr : ∀ x kd, sc.names.lookup x = some kd → X.env.scope.names.lookup x = some kd ∨ (kd = .free ∧ X.env.scope.names.lookup x = some .cell)
theorem Good.loc {P : Prog} {go : Go} {k : Nat} {X : Cx} {sc : Scope} {W : WX} (G : Good P go k X sc W) {x : Str} (h : Loc sc x) : Loc X.env.scope x := by
  rcases h with h | h
  · rcases G.scr x _ h with q | ⟨q, _⟩
    · exact .inl q
    · cases q
  · rcases G.scr x _ h with q | ⟨q, _⟩
    · exact .inr q
    · cases q
theorem Good.vis {P : Prog} {go : Go} {k : Nat} {X : Cx} {sc : Scope} {W : WX} (G : Good P go k X sc W) {x : Str} (h : Vis sc x) : Vis X.env.scope x := by
  rcases h with h | h | h
  · rcases G.loc (.inl h) with q | q
    · exact .inl q
    · exact .inr (.inl q)
  · rcases G.loc (.inr h) with q | q
    · exact .inl q
    · exact .inr (.inl q)
  · rcases G.scr x _ h with q | ⟨_, q⟩
    · exact .inr (.inr q)
    · exact .inr (.inl q)
theorem Good.gl {P : Prog} {go : Go} {k : Nat} {X : Cx} {sc : Scope} {W : WX} (G : Good P go k X sc W) {x : Str} (h : sc.names.lookup x = some .globalImplicit) : Gl X x := by
  rcases G.scr x _ h with q | ⟨q, _⟩
  · exact q
  · cases q
theorem relabel_get {env : PySem.Env} : ∀ {l : List (Str × NameKind)} {x : Str} {kd : NameKind}, l.lookup x = some kd → (l.map fun (n, k) => if (k == NameKind.free && env.scope.kind == .function && env.kindOf n == some .cell) then (n, NameKind.cell) else (n, k)).lookup x = some kd ∨ (kd = .free ∧ (l.map fun (n, k) => if (k == NameKind.free && env.scope.kind == .function && env.kindOf n == some .cell) then (n, NameKind.cell) else (n, k)).lookup x = some .cell)
  | [], x, kd, h => by cases h
  | (n, q) :: l, x, kd, h => by
    by_cases e : x = n
    · subst e
      have hq : q = kd := by
        have : some q = some kd := by simpa [List.lookup] using h
        exact Option.some.inj this
      subst hq
      by_cases c : (q == NameKind.free && env.scope.kind == .function && env.kindOf x == some .cell) = true
      · refine .inr ⟨?_, ?_⟩
        · have c1 := (Bool.and_eq_true_iff.mp (Bool.and_eq_true_iff.mp c).1).1
          cases q <;> first | rfl | (cases c1)
        · show List.lookup x ((if (q == NameKind.free && env.scope.kind == .function && env.kindOf x == some .cell) = true then (x, NameKind.cell) else (x, q)) :: _) = _
          rw [if_pos c]
          simp [List.lookup]
      · refine .inl ?_
        show List.lookup x ((if (q == NameKind.free && env.scope.kind == .function && env.kindOf x == some .cell) = true then (x, NameKind.cell) else (x, q)) :: _) = _
        rw [if_neg c]
        simp [List.lookup]
    · have e2 : (x == n) = false := by simpa using e
      have h2 : l.lookup x = some kd := by simpa [List.lookup, e2] using h
      have step : ∀ (p : Str × NameKind) (r : List (Str × NameKind)), p.1 = n → List.lookup x (p :: r) = List.lookup x r := fun p r hp => by
        obtain ⟨p1, p2⟩ := p
        subst hp
        simp [List.lookup, e2]
      have hd : (if (q == NameKind.free && env.scope.kind == .function && env.kindOf n == some .cell) = true then (n, NameKind.cell) else (n, q)).1 = n := by split <;> rfl
      rcases relabel_get (env := env) h2 with z | ⟨z1, z⟩
      · exact .inl ((step _ _ hd).trans z)
      · exact .inr ⟨z1, (step _ _ hd).trans z⟩
theorem Good.blk {P : Prog} {go : Go} {k : Nat} {X : Cx} {sc : Scope} {W : WX} (G : Good P go k X sc W) {s : Shared} {H : Hp} {scope : Scope} {cl : List (Str × Addr)} {C : Addr} {fp : List Addr} : Good P go k (X.blk s H scope (compEnvC scope cl C X.env) fp) scope (fun _ _ _ _ => False) where
  nd := G.nd
  calm := G.calm
  room := G.room
  tk := takes0
  tab := G.tab
  fnc := fun x h => by
    show (scope.names.lookup x == some .cell) = true
    rw [h] <;> rfl
  scr := fun x kd h => relabel_get (env := X.env) h
theorem Good.blkOk {P : Prog} {go : Go} {k : Nat} {X : Cx} {sc cs : Scope} {W : WX} {own : List (Str × Nat)} (G : Good P go k X sc W) (h : blkC X.N sc cs own = true) : BlkOk X.N X.env.scope cs own := by
  have ok := blkOk_by h
  refine ⟨ok.kind, ok.uniq, ok.ix, fun y hy e => ?_, ok.own⟩
  rcases ok.free y hy e with q | q
  · rcases G.scr y.1 _ q with z | ⟨z, _⟩
    · exact .inl z
    · cases z
  · rcases G.scr y.1 _ q with z | ⟨_, z⟩
    · exact .inr z
    · exact .inl z
theorem _root_.L2.PE.weak {X : Cx} {e : Expr} {t t' : TE} (h : PE X e t) (w : ∀ σ H Q, t' σ H Q → t σ H Q) : PE X e t' := ⟨fun pins s σ H Q I q => h.run pins s σ H Q I (w σ H Q q)⟩
theorem _root_.L2.PE.never {X : Cx} {e : Expr} {t : TE} (w : ∀ σ H Q, ¬ t σ H Q) : PE X e t := ⟨fun pins s σ H Q I q => (w σ H Q q).elim⟩
theorem _root_.L2.PA.weak {X : Cx} {e : List Expr} {t t' : TA} (h : PA X e t) (w : ∀ σ H Q, t' σ H Q → t σ H Q) : PA X e t' := ⟨fun pos pins s σ H Q I q => h.run pos pins s σ H Q I (w σ H Q q)⟩
theorem _root_.L2.PT.weak {X : Cx} {e : Expr} {t t' : TT} (h : PT X e t) (w : ∀ σ H Q, t' σ H Q → t σ H Q) : PT X e t' := ⟨fun pins s σ H Q I q => h.run pins s σ H Q I (w σ H Q q)⟩
theorem _root_.L2.PW.weak {X : Cx} {e : Expr} {t t' : TT} (h : PW X e t) (w : ∀ σ H Q, t' σ H Q → t σ H Q) : PW X e t' := ⟨fun wh pins s σ H Q I q => h.run wh pins s σ H Q I (w σ H Q q)⟩
theorem _root_.L2.PT.never {X : Cx} {e : Expr} {t : TT} (w : ∀ σ H Q, ¬ t σ H Q) : PT X e t := ⟨fun pins s σ H Q I q => (w σ H Q q).elim⟩
theorem _root_.L2.PW.never {X : Cx} {e : Expr} {t : TT} (w : ∀ σ H Q, ¬ t σ H Q) : PW X e t := ⟨fun wh pins s σ H Q I q => (w σ H Q q).elim⟩
theorem _root_.L2.PO.weak {X : Cx} {e : Option Expr} {t t' : TO} (h : PO X e t) (w : ∀ σ H Q, t' σ H Q → t σ H Q) : PO X e t' := ⟨fun pins s σ H Q I q => h.run pins s σ H Q I (w σ H Q q)⟩
theorem rd_bad {P : Prog} {go : Go} {K : Frag} {mg : Str → Option Value} {W : WX} : ∀ σ H Q, ¬ rdE P go K mg W .bad σ H Q := fun σ H Q ⟨r, env, st, _, _, h⟩ => by
  unfold evE at h
  exact h
theorem ix_get {x : Str} : ∀ {N : List Str} {j i : Nat}, ix x N j = some i → ∃ m, i = j + m ∧ N[m]? = some x
  | [], j, i, h => by unfold ix at h; cases h
  | y :: N, j, i, h => by
    unfold ix at h
    by_cases e : x = y
    · rw [if_pos e] at h
      cases h
      exact ⟨0, rfl, by simp [e]⟩
    · rw [if_neg e] at h
      obtain ⟨m, h1, h2⟩ := ix_get h
      exact ⟨m + 1, by omega, by simpa using h2⟩
theorem ix_at {x : Str} {N : List Str} {i : Nat} (h : ix x N 0 = some i) : N[i]? = some x := by
  obtain ⟨m, h1, h2⟩ := ix_get h
  have : i = m := by omega
  rw [this]; exact h2
theorem slot_of {N : List Str} {sc : Scope} {x : Str} {i : Nat} (h : slotOf N sc x = some i) : N[i]? = some x ∧ Loc sc x := by
  unfold slotOf at h
  split at h
  · rename_i e; exact ⟨ix_at h, .inl e⟩
  · rename_i e; exact ⟨ix_at h, .inr e⟩
  · cases h
theorem isGl_of {sc : Scope} {x : Str} (h : isGl sc x = true) : sc.names.lookup x = some .globalImplicit ∧ (x == ("__debug__" : Str)) = false := by
  unfold isGl at h
  split at h
  · rename_i e; exact ⟨e, by simpa using h⟩
  · cases h
theorem star_cons {e : Expr} {es : List Expr} {env : PySem.Env} (h : isStar e = false) : starEach (e :: es) env = (false, eval e env) :: starEach es env := by
  cases e <;> first | rfl | (cases h)
theorem star_any : ∀ {es : List Expr} {env : PySem.Env} {p : Pos}, es.any isStar = false → (backTo p (starEach es env)).any (·.1) = false
  | [], env, p, h => rfl
  | e :: es, env, p, h => by
    have h1 : isStar e = false ∧ es.any isStar = false := by simpa using h
    rw [star_cons h1.1]
    show (false || (backTo p (starEach es env)).any (·.1)) = false
    rw [star_any h1.2] <;> rfl
end SI

set_option maxHeartbeats 2000000
/-! SI 6: each construct's reading by the interpreter is a reading. -/
namespace SI
open PySem L2
section
variable {P : Prog} {go : Go} {k : Nat} {X : Cx} {sc : Scope} {W : WX} {a b c : Expr} {a' b' c' : E} {pos : Pos}
/-- the reading of a part, from what is wanted of it -/
theorem rd_of {e : E} {σ : L2.St} {H : Hp} {Q : VK} {r : List Addr} {env : Env} {st : Store} {ok : Ev → Store → List Addr → Hp → Prop} (he : EnvR X.K r H env σ) (S : Sim X.K X.mg r st H) (h : PostR X.K X.mg r H (evE P go e env st) ok (Wat W σ))
    (q : ∀ x st' r' H' v, Up r H r' H' → Sim X.K X.mg r' st' H' → RelEv X.K r' H H' x v → ok x st' r' H' → Q v H') : rdE P go X.K X.mg W e σ H Q :=
  ⟨r, env, st, he, S, h.mono fun x st' r' H' _ u s o v hv => q x st' r' H' v u s hv o⟩
theorem rda_of {e : Es} {σ : L2.St} {H : Hp} {Q : List V → Hp → Prop} {r : List Addr} {env : Env} {st : Store} {ok : List Ev → Store → List Addr → Hp → Prop} (he : EnvR X.K r H env σ) (S : Sim X.K X.mg r st H) (h : PostR X.K X.mg r H (evEs P go e env st) ok (Wat W σ))
    (q : ∀ x st' r' H' v, Up r H r' H' → Sim X.K X.mg r' st' H' → RelEvs X.K r' H H' x v → evEs P go e env st = .ok x st' → ok x st' r' H' → Q v H') : rdA P go X.K X.mg W e σ H Q :=
  ⟨r, env, st, he, S, h.mono fun x st' r' H' e u s o v hv => q x st' r' H' v u s hv e o⟩
theorem rdo_of {e : Option E} {σ : L2.St} {H : Hp} {Q : Option Int → Hp → Prop} {r : List Addr} {env : Env} {st : Store} {ok : Option Int → Store → List Addr → Hp → Prop} (he : EnvR X.K r H env σ) (S : Sim X.K X.mg r st H) (h : PostR X.K X.mg r H (evO P go e env st) ok (Wat W σ))
    (q : ∀ x st' r' H', Up r H r' H' → Sim X.K X.mg r' st' H' → ok x st' r' H' → Q x H') : rdO P go X.K X.mg W e σ H Q :=
  ⟨r, env, st, he, S, h.mono fun x st' r' H' _ u s o => q x st' r' H' u s o⟩
theorem rdt_of {e : E} {σ : L2.St} {H : Hp} {Q : Bool → Hp → Prop} {r : List Addr} {env : Env} {st : Store} {ok : Bool → Store → List Addr → Hp → Prop} (he : EnvR X.K r H env σ) (S : Sim X.K X.mg r st H) (h : PostR X.K X.mg r H (evT P go e env st) ok (Wat W σ))
    (q : ∀ x st' r' H', Up r H r' H' → Sim X.K X.mg r' st' H' → ok x st' r' H' → Q x H') : rdT P go X.K X.mg W e σ H Q :=
  ⟨r, env, st, he, S, h.mono fun x st' r' H' _ u s o => q x st' r' H' u s o⟩
/-- a result at hand -/
theorem post_ok {α : Type} {x : α} {st : Store} {K : Frag} {mg : Str → Option Value} {r : List Addr} {H : Hp} {ok : α → Store → List Addr → Hp → Prop} {E : XK} (h : PostR K mg r H (.ok x st) ok E) (S : Sim K mg r st H) : ok x st r H := h r H (Up.refl r H) S

theorem s_int {i : Int} {j} : PE X (.Constant (.int i) j pos) (RE P go X W (.int i)) := pe_int.weak fun σ H Q ⟨r, env, st, he, S, h⟩ => by
  unfold evE at h
  exact post_ok h S _ rel_int'
theorem s_bl {i : Bool} {j} : PE X (.Constant (.bool i) j pos) (RE P go X W (.bl i)) := pe_bl.weak fun σ H Q ⟨r, env, st, he, S, h⟩ => by
  unfold evE at h
  exact post_ok h S _ rel_bl'
theorem s_non {j} : PE X (.Constant .none j pos) (RE P go X W .non) := pe_non.weak fun σ H Q ⟨r, env, st, he, S, h⟩ => by
  unfold evE at h
  exact post_ok h S _ rel_non'
theorem s_str {i : Str} {j} : PE X (.Constant (.str i) j pos) (RE P go X W (.str i)) := pe_str.weak fun σ H Q ⟨r, env, st, he, S, h⟩ => by
  unfold evE at h
  exact post_ok h S _ rel_str'
theorem s_loc {x : Str} {i : Nat} (hN : X.N[i]? = some x) (hv : Vis X.env.scope x) (hd : (x == ("__debug__" : Str)) = false) (hc : (x == ("__classdict__" : Str)) = false) : PE X (.Name x pos) (RE P go X W (.loc i)) := (pe_var hN hv hd hc).weak fun σ H Q ⟨r, env, st, he, S, h⟩ => by
  unfold evE at h
  split at h
  · rename_i d e
    obtain ⟨v, h1, h2⟩ := he.2 i d e
    exact ⟨v, h1, post_ok h S _ h2⟩
  · exact h.elim
theorem s_glo (G : Good P go k X sc W) {x : Str} (hg : Gl X x) (hd : (x == ("__debug__" : Str)) = false) : PE X (.Name x pos) (RE P go X W (.glo x)) := by
  cases e : P.consts.lookup x with
  | none =>
    refine PE.never fun σ H Q ⟨r, env, st, he, S, h⟩ => ?_
    unfold evE at h
    rw [e] at h
    exact h
  | some d =>
    obtain ⟨u, v, h1, h2, h3⟩ := G.tab.cs x d e
    refine (pe_glob hg h1 h2 hd).weak fun σ H Q ⟨r, env, st, he, S, h⟩ => ?_
    unfold evE at h
    rw [e] at h
    exact post_ok h S _ (h3 r H)
theorem s_bin (op : BOp) (ha : PE X a (RE P go X W a')) (hb : PE X b (RE P go X W b')) : PE X (.BinOp a (unb op) b pos) (RE P go X W (.bin op a' b')) := by
  obtain ⟨rr, ho, hr⟩ := bin_ok (X := X) (mg := X.mg) op
  refine (pe_op ho ha hb).weak fun σ H Q ⟨r, env, st, he, S, h⟩ => ?_
  unfold evE at h
  refine rd_of he S h.bind fun x st1 r1 H1 v u1 S1 hx h1 => ?_
  refine rd_of (he.up u1) S1 h1.bind fun y st2 r2 H2 w u2 S2 hy h2 => ?_
  obtain ⟨z, hz, q⟩ := h2.of
  exact hr S2 (hx.up u2) hy hz fun r' H' v' u' S' hv => q r' H' u' S' v' (hv.older fun p hp => (u1.trans u2).dom p hp)
theorem s_neg (ha : PE X a (RE P go X W a')) : PE X (.UnaryOp .USub a pos) (RE P go X W (.neg a')) := (pe_un un_neg ha).weak fun σ H Q ⟨r, env, st, he, S, h⟩ => by
  unfold evE at h
  refine rd_of he S h.bind fun x st1 r1 H1 v u1 S1 hx h1 => ?_
  split at h1
  · rw [rel_int hx]
    exact ⟨_, rfl, post_ok h1 S1 _ rel_int'⟩
  · exact h1.elim
theorem s_not (ha : PE X a (RE P go X W a')) : PE X (.UnaryOp .Not a pos) (RE P go X W (.not a')) := (pe_not ha).weak fun σ H Q ⟨r, env, st, he, S, h⟩ => by
  unfold evE at h
  refine rd_of he S h.bind fun x st1 r1 H1 v u1 S1 hx h1 => ?_
  split at h1
  · rw [rel_bl hx]
    exact ⟨_, rfl, post_ok h1 S1 _ rel_bl'⟩
  · exact h1.elim
theorem ok_older {H H1 : Hp} {Q : VK} {x : Ev} {st : Store} {r' : List Addr} {H' : Hp} {K : Frag} (d : ∀ p, H1 p = none → H p = none) (h : OkE K H Q x st r' H') : OkE K H1 Q x st r' H' := fun v hv => h v (hv.older d)
theorem s_and {rest : List Expr} (ha : PE X a (RE P go X W a')) (hb : PE X (.BoolOp .And (b :: rest) pos) (RE P go X W b')) : PE X (.BoolOp .And (a :: b :: rest) pos) (RE P go X W (.and a' b')) := (pe_and ha hb).weak fun σ H Q ⟨r, env, st, he, S, h⟩ => by
  unfold evE at h
  refine rd_of he S h.bind fun x st1 r1 H1 v u1 S1 hx h1 => ?_
  split at h1
  · rename_i cc
    rw [rel_bl hx]
    refine ⟨_, rfl, ?_⟩
    cases cc with
    | true => exact iteT ⟨r1, env, st1, he.up u1, S1, h1.mono fun _ _ _ _ _ _ _ q => ok_older u1.dom q⟩
    | false => exact iteF (post_ok h1 S1 _ rel_bl')
  · exact h1.elim
theorem s_or {rest : List Expr} (ha : PE X a (RE P go X W a')) (hb : PE X (.BoolOp .Or (b :: rest) pos) (RE P go X W b')) : PE X (.BoolOp .Or (a :: b :: rest) pos) (RE P go X W (.or a' b')) := (pe_or ha hb).weak fun σ H Q ⟨r, env, st, he, S, h⟩ => by
  unfold evE at h
  refine rd_of he S h.bind fun x st1 r1 H1 v u1 S1 hx h1 => ?_
  split at h1
  · rename_i cc
    rw [rel_bl hx]
    refine ⟨_, rfl, ?_⟩
    cases cc with
    | true => exact iteT (post_ok h1 S1 _ rel_bl')
    | false => exact iteF ⟨r1, env, st1, he.up u1, S1, h1.mono fun _ _ _ _ _ _ _ q => ok_older u1.dom q⟩
  · exact h1.elim
theorem post_bV {K : Frag} {mg : Str → Option Value} {r : List Addr} {H : Hp} {o : Option Bool} {st : Store} {Q : Ev → Store → List Addr → Hp → Prop} {E : XK} (h : PostR K mg r H (R.of (o.map bV) st) Q E) (S : Sim K mg r st H) : ∃ b, o = some b ∧ Q (bV b) st r H := by
  cases o with
  | none => exact h.elim
  | some b => exact ⟨b, rfl, post_ok h S⟩
theorem mark_no {op : CmpOp} (h : isSet b = false) : behindInMarks op b = false := by
  cases b <;> first | rfl | (cases h)
theorem s_cmp (G : Good P go k X sc W) (op : COp) (ha : PE X a (RE P go X W a')) (hb : PE X b (RE P go X W b')) (hs : isSet b = false) : PE X (.Compare a [unc op] [b] pos) (RE P go X W (.cmp op a' b')) := by
  obtain ⟨rr, ho, hr⟩ := cmp_ok (X := X) (mg := X.mg) (by have := G.room.un; omega) op
  refine (pe_cmpR ho ha hb (mark_no hs)).weak fun σ H Q ⟨r, env, st, he, S, h⟩ => ?_
  unfold evE at h
  refine rd_of he S h.bind fun x st1 r1 H1 v u1 S1 hx h1 => ?_
  refine rd_of (he.up u1) S1 h1.bind fun y st2 r2 H2 w u2 S2 hy h2 => ?_
  obtain ⟨bb, hz, q⟩ := post_bV h2 S2
  exact hr S2 (hx.up u2) hy hz (q _ rel_bl')
theorem s_cmpT (G : Good P go k X sc W) (op : COp) (ha : PE X a (RE P go X W a')) (hb : PE X b (RE P go X W b')) (hs : isSet b = false) : PT X (.Compare a [unc op] [b] pos) (RT P go X W (.cmp op a' b')) := by
  obtain ⟨rr, ho, hr⟩ := cmp_ok (X := X) (mg := X.mg) (by have := G.room.un; omega) op
  refine (pt_cmpR ho ha hb (mark_no hs)).weak fun σ H Q ⟨r, env, st, he, S, h⟩ => ?_
  unfold evT evE at h
  have h := h.bind.bind
  refine rd_of he S h fun x st1 r1 H1 v u1 S1 hx h1 => ?_
  refine rd_of (he.up u1) S1 h1.bind fun y st2 r2 H2 w u2 S2 hy h2 => ?_
  obtain ⟨bb, hz, q⟩ := post_bV h2 S2
  exact hr S2 (hx.up u2) hy hz ⟨bb, rfl, post_ok q S2⟩
theorem s_chain (G : Good P go k X sc W) (o1 o2 : COp) (ha : PE X a (RE P go X W a')) (hb : PE X b (RE P go X W b')) (hc : PE X c (RE P go X W c')) (hs : isSet b = false) (hs2 : isSet c = false) : PE X (.Compare a [unc o1, unc o2] [b, c] pos) (RE P go X W (.chain o1 o2 a' b' c')) := by
  obtain ⟨rr, ho, hr⟩ := cmp_ok (X := X) (mg := X.mg) (by have := G.room.un; omega) o1
  obtain ⟨rr2, ho2, hr2⟩ := cmp_ok (X := X) (mg := X.mg) (by have := G.room.un; omega) o2
  refine (pe_chain ho ho2 ha hb hc (show behindInMarks (unc o2) c = false from mark_no hs2)).weak fun σ H Q ⟨r, env, st, he, S, h⟩ => ?_
  unfold evE at h
  refine rd_of he S h.bind fun x st1 r1 H1 v u1 S1 hx h1 => ?_
  refine rd_of (he.up u1) S1 h1.bind fun y st2 r2 H2 w u2 S2 hy h2 => ?_
  cases e : cmpD o1 x y st2 with
  | none => rw [e] at h2; exact h2.elim
  | some bb =>
    rw [e] at h2
    refine hr S2 (hx.up u2) hy e ⟨bb, rfl, ?_⟩
    cases bb with
    | false => exact iteF (post_ok h2 S2 _ rel_bl')
    | true =>
      refine iteT (rd_of ((he.up u1).up u2) S2 h2.bind fun z st3 r3 H3 w3 u3 S3 hz h3 => ?_)
      obtain ⟨b3, e3, q3⟩ := post_bV h3 S3
      exact hr2 S3 (hy.up u3) hz e3 (q3 _ rel_bl')
end
end SI

set_option maxHeartbeats 2000000
/-! SI 7: the further constructs of expressions. -/
namespace SI
open PySem L2
section
variable {P : Prog} {go : Go} {k : Nat} {X : Cx} {sc : Scope} {W : WX} {a b c e : Expr} {a' b' c' e' : E} {es : List Expr} {es' : Es} {pos : Pos}
/-! ### arguments -/
theorem s_nil : PA X [] (RA P go X W .nil) := pa_nil.weak fun σ H Q ⟨r, env, st, he, S, h⟩ => by
  unfold evEs at h
  exact post_ok h S _ rfl
theorem s_cons (hs : isStar e = false) (ha : PE X e (RE P go X W e')) (hb : PA X es (RA P go X W es')) : PA X (e :: es) (RA P go X W (.cons e' es')) := (pa_cons ha hb (star_cons hs)).weak fun σ H Q ⟨r, env, st, he, S, h⟩ => by
  unfold evEs at h
  refine rd_of he S h.bind fun x st1 r1 H1 v u1 S1 hx h1 => ?_
  refine rda_of (he.up u1) S1 h1.bind fun xs st2 r2 H2 vs u2 S2 hxs e2 h2 => ?_
  refine post_ok h2 S2 _ ⟨v, vs, rfl, hx.up u2, fun ds e i es' hi hv => ?_, hxs.older u1.dom⟩
  subst e
  obtain ⟨p, ys, rfl, _, _, hp, _⟩ := hx
  -- a later new list lies elsewhere
  have key : ∀ (l : List Ev) (ws : List V) (i : Nat), RelEvs X.K r2 H1 H2 l ws → l[i]? = some (.t es') → ws[i]? ≠ some (.ref p) := by
    intro l
    induction l with
    | nil => intro ws i _ h; simp at h
    | cons y l ih =>
      intro ws i q h
      obtain ⟨u, ws', rfl, q1, _, q3⟩ := q
      cases i with
      | zero =>
        simp at h; subst h
        obtain ⟨b, zs, rfl, z2, _⟩ := q1
        intro e
        simp at e; subst e
        rw [z2] at hp; cases hp
      | succ i => simpa using ih ws' i q3 (by simpa using h)
  exact key xs vs i hxs hi hv
theorem s_args {f : Expr → E} (ih : ∀ e, PE X e (RE P go X W (f e))) : ∀ es : List Expr, es.any isStar = false → PA X es (RA P go X W (erEs f es))
  | [], _ => s_nil
  | e :: es, h => by
    have h1 : isStar e = false ∧ es.any isStar = false := by simpa using h
    exact s_cons h1.1 (ih e) (s_args ih es h1.2)
theorem esLen_er {f : Expr → E} : ∀ es : List Expr, esLen (erEs f es) = es.length
  | [] => rfl
  | e :: es => by
    show esLen (erEs f es) + 1 = _
    rw [esLen_er es]; rfl
theorem bind_ok {α β : Type} {x : R α} {f : α → Store → R β} {b : β} {st : Store} (h : x.bind f = .ok b st) : ∃ a st1, x = .ok a st1 ∧ f a st1 = .ok b st := by
  cases x with
  | ok a st1 => exact ⟨a, st1, rfl, h⟩
  | ex _ _ _ => cases h
  | stuck => cases h
theorem evEs_len {go : Go} : ∀ {es : Es} {env : Env} {st st' : Store} {xs : List Ev}, evEs P go es env st = .ok xs st' → xs.length = esLen es
  | .nil, env, st, st', xs, h => by unfold evEs at h; cases h; rfl
  | .cons e es, env, st, st', xs, h => by
    unfold evEs at h
    obtain ⟨x, st1, _, h⟩ := bind_ok h
    obtain ⟨ys, st2, h2, h⟩ := bind_ok h
    cases h
    simp [esLen, evEs_len h2]
theorem PostR.bind0 {α β : Type} {K : Frag} {mg : Str → Option Value} {r : List Addr} {H : Hp} {E : XK} {x : R α} {f : α → Store → R β} {ok : β → Store → List Addr → Hp → Prop} (h : PostR K mg r H (x.bind f) ok E) : PostR K mg r H x (fun a st _ _ => PostR K mg r H (f a st) ok E) E := by
  cases x with
  | ok a st => exact fun r1 H1 u s => h
  | ex c fs st => exact h
  | stuck => exact h
theorem s_tup {x1} (ha : PA X es (RA P go X W es')) (hl : esLen es' < 100) : PE X (.Tuple es x1 pos) (RE P go X W (.tup es')) := (pe_tup ha).weak fun σ H Q ⟨r, env, st, he, S, h⟩ => by
  unfold evE at h
  refine rda_of he S h.bind0 fun xs st1 r1 H1 vs u1 S1 hx e1 h1 => ⟨?_, fun p hp => ?_⟩
  · rw [← hx.length, evEs_len e1, sizeLine_eq]; omega
  · obtain ⟨r2, U2, _, S2, R2⟩ := mats_ok u1 S1 hx
    have n2 := Up.new (r := r2) (o := .tup vs) hp
    exact h1 r2 _ (U2.trans n2) (S2.new hp) _ (rel_tup (n2.relL R2) upd_same)
theorem s_lst (ha : PA X es (RA P go X W es')) (hl : esLen es' < 100) : PE X (.List es pos) (RE P go X W (.lst es')) := (pe_lst ha).weak fun σ H Q ⟨r, env, st, he, S, h⟩ => by
  unfold evE at h
  refine rda_of he S h.bind0 fun xs st1 r1 H1 vs u1 S1 hx e1 h1 => ⟨?_, fun p hp => ?_⟩
  · rw [← hx.length, evEs_len e1, sizeLine_eq]; omega
  · obtain ⟨r2, U2, _, S2, R2⟩ := mats_ok u1 S1 hx
    have n2 := Up.new (r := r2) (o := .lst vs) hp
    exact h1 r2 _ (U2.trans n2) (S2.new hp) _ ⟨p, vs, rfl, U2.dom p hp, S2.off hp, upd_same, n2.relL R2⟩
/-! ### items, slices -/
theorem plainIx (h : ∀ lo hi st p, b ≠ .Slice lo hi st p) : PlainIx b := fun o i => by
  cases b <;> first | rfl | exact absurd rfl (h _ _ _ _)
def rIxK : R2 := fun x y H Q => ∃ a v, x = .ref a ∧ DGet H a y (some v) ∧ Q v H
theorem ix_dict (hu : X.A.units + 1 < cLine) : IxR X rIxK := by
  intro value slice pins s σ H x y v u Q I rx ry h hs
  obtain ⟨p, w, rfl, g, q⟩ := h
  cases rx
  exact PyProof.Rows.tail_any (dict_typeIs I g) PySem.F.slot_dict_getitem.lookup (d_getItem hu I g ry fun w' s' I' rw' => ⟨w, H, I', rw', q⟩) hs
theorem rIx_idx {x y : Ev} {r : List Addr} {st : Store} {H0 H1 H : Hp} {v w : V} {d : D} {Q : VK} (S : Sim X.K X.mg r st H) (hx : RelEv X.K r H0 H x v) (hy : RelEv X.K r H1 H y w) (e : idxD x y st = some d)
    (q : ∀ u, Rel X.K r H d u → Q u H) : (L2.rIx X.K v w H Q ∨ rIxK v w H Q) := by
  unfold idxD at e
  split at e
  · split at e
    · rename_i s i hl
      rw [rel_str hx, rel_int hy]
      cases e2 : L2.atI s.cps.toList i with
      | none => rw [e2] at e; cases e
      | some c =>
        rw [e2] at e
        cases e
        exact .inl (.inr (.inr ⟨s, i, c, rfl, rfl, by rw [sizeLine_eq]; unfold lim at hl; omega, e2, q _ (by unfold Rel; rfl)⟩))
    · cases e
  · rename_i k _
    split at e
    · rename_i kvs e1
      obtain ⟨a, kw, rfl, hk, hr⟩ := dicE_ok S hx e1
      cases e2 : dkey k with
      | none => rw [e2] at e; cases e
      | some kk =>
        rw [e2] at e
        obtain ⟨u, h1, h2⟩ := (hr.get kk).1 d e
        exact .inr ⟨a, u, rfl, .inl ⟨kw, kk, hk, dkey_rel hy e2, h1.symm⟩, q u h2⟩
    · split at e
      · rename_i ds i e1 _
        obtain ⟨p, xs, rfl, hq, hr⟩ := items_ok S hx e1
        rw [rel_int hy]
        obtain ⟨u, h3, h4⟩ := atI_rel hr e
        rcases hq with hq | hq
        · exact .inl (.inl ⟨p, xs, i, u, rfl, rfl, hq, h3, q u h4⟩)
        · exact .inl (.inr (.inl ⟨p, xs, i, u, rfl, rfl, hq, h3, q u h4⟩))
      · cases e
  · cases e
theorem s_idx (G : Good P go k X sc W) (ha : PE X a (RE P go X W a')) (hb : PE X b (RE P go X W b')) (hp : PlainIx b) : PE X (.Subscript a b pos) (RE P go X W (.idx a' b')) := (pe_ix (ix_seq.or (ix_dict (by have := G.room.un; omega))) ha hb hp).weak fun σ H Q ⟨r, env, st, he, S, h⟩ => by
  unfold evE at h
  refine rd_of he S h.bind fun x st1 r1 H1 v u1 S1 hx h1 => ?_
  refine rd_of (he.up u1) S1 h1.bind fun y st2 r2 H2 w u2 S2 hy h2 => ?_
  obtain ⟨z, e1, q⟩ := h2.of
  cases e2 : idxD x y st2 with
  | none => rw [e2] at e1; cases e1
  | some d =>
    rw [e2] at e1
    cases e1
    exact rIx_idx S2 (hx.up u2) hy e2 fun u hu => q r2 H2 (Up.refl r2 H2) S2 u hu
theorem s_oN : PO X none (RO P go X W none) := po_none.weak fun σ H Q ⟨r, env, st, he, S, h⟩ => by
  unfold evO at h
  exact post_ok h S
theorem s_oS (ha : PE X a (RE P go X W a')) : PO X (some a) (RO P go X W (some a')) := (po_some ha).weak fun σ H Q ⟨r, env, st, he, S, h⟩ => by
  unfold evO at h
  refine rd_of he S h.bind fun x st1 r1 H1 v u1 S1 hx h1 => ?_
  split at h1
  · exact ⟨_, rel_int hx, post_ok h1 S1⟩
  · exact h1.elim
theorem slD_rel {r : List Addr} {H : Hp} {ds : List D} {xs : List V} {lo hi : Option Int} (h : RelL X.K r H ds xs) : RelL X.K r H (slD ds lo hi) (cutV xs lo hi) := by
  unfold slD cutV
  rw [h.length]
  exact (h.drop _).take _
theorem s_sl {lo hi : Option Expr} {lo' hi' : Option E} {p2 : Pos} (ha : PE X a (RE P go X W a')) (hl : PO X lo (RO P go X W lo')) (hh : PO X hi (RO P go X W hi')) : PE X (.Subscript a (.Slice lo hi none p2) pos) (RE P go X W (.sl a' lo' hi')) :=
  (pe_slice (sl_list.or (sl_str.or sl_tupA)) ha hl hh).weak fun σ H Q ⟨r, env, st, he, S, h⟩ => by
  unfold evE at h
  refine rd_of he S h.bind fun x st1 r1 H1 v u1 S1 hx h1 => ?_
  refine rdo_of (he.up u1) S1 h1.bind fun i st2 r2 H2 u2 S2 h2 => ?_
  refine rdo_of ((he.up u1).up u2) S2 h2.bind fun j st3 r3 H3 u3 S3 h3 => ?_
  obtain ⟨z, e1, q⟩ := h3.of
  have hx3 := (hx.up u2).up u3
  unfold slE at e1
  split at e1
  · split at e1 <;> cases e1
    rename_i s hl
    rw [rel_str hx3]
    exact .inr (.inl ⟨s, rfl, by rw [sizeLine_eq]; unfold lim at hl; omega, q r3 H3 (Up.refl r3 H3) S3 _ rel_str'⟩)
  · rename_i ds
    cases e1
    obtain ⟨p, xs, rfl, hp, hr⟩ := tup_rel hx3
    refine .inr (.inr ⟨p, xs, rfl, .inl (.inl hp), fun hw => ?_, fun _ l hl => ?_⟩)
    · have e : slD ds i j = ds := by
        unfold slD
        rw [hr.length, hw.1, hw.2, ← hr.length]
        simp
      refine q r3 H3 (Up.refl r3 H3) S3 _ ?_
      rw [e]
      exact rel_tup hr hp
    · have n2 := Up.new (r := r3) (o := .tup (cutV xs i j)) hl
      exact q r3 _ n2 (S3.new hl) _ (rel_tup (n2.relL (slD_rel hr)) upd_same)
  · cases e2 : lstE st3 x with
    | none => rw [e2] at e1; cases e1
    | some ds =>
      rw [e2] at e1
      cases e1
      obtain ⟨p, xs, rfl, hq, hr⟩ := lstE_ok S3 hx3 e2
      refine .inl ⟨p, xs, rfl, hq, fun l hl => ?_⟩
      have n2 := Up.new (r := r3) (o := .lst (cutV xs i j)) hl
      exact q r3 _ n2 (S3.new hl) _ ⟨l, _, rfl, ((u1.trans u2).trans u3).dom l hl, S3.off hl, upd_same, n2.relL (slD_rel hr)⟩
/-! ### attributes -/
theorem relF_get {K : Frag} {r : List Addr} {H : Hp} {f : Str} : ∀ {fs : List (Str × D)} {ys : List (Str × V)}, RelF K r H fs ys → (∀ d, fs.lookup f = some d → ∃ v, ys.lookup f = some v ∧ Rel K r H d v) ∧ (fs.lookup f = none → ys.lookup f = none)
  | [], ys, h => by rw [show ys = [] from h]; exact ⟨fun d e => by (cases e), fun _ => rfl⟩
  | p :: fs, ys, h => by
    obtain ⟨v, vs, rfl, h1, h2⟩ := h
    obtain ⟨a1, a2⟩ := relF_get (f := f) h2
    obtain ⟨pf, pd⟩ := p
    by_cases e : f = pf
    · subst e
      simp only [List.lookup, beq_self_eq_true]
      exact ⟨fun d q => by (cases q; exact ⟨v, rfl, h1⟩), fun q => by (cases q)⟩
    · have e2 : (f == pf) = false := by simpa using e
      simp only [List.lookup, e2]
      exact ⟨a1, a2⟩
theorem relF_put {K : Frag} {r : List Addr} {H : Hp} {f : Str} {d : D} {v : V} (q : Rel K r H d v) : ∀ {fs : List (Str × D)} {ys : List (Str × V)}, RelF K r H fs ys → RelF K r H (putD f d fs) (putF f v ys)
  | [], ys, h => by rw [show ys = [] from h]; exact ⟨v, [], rfl, q, rfl⟩
  | p :: fs, ys, h => by
    obtain ⟨w, vs, rfl, h1, h2⟩ := h
    unfold putD putF
    by_cases e : p.1 = f
    · rw [if_pos e, if_pos e]
      exact ⟨v, vs, by simp [e], q, h2⟩
    · rw [if_neg e, if_neg e]
      exact ⟨w, _, rfl, h1, relF_put q h2⟩
theorem relF_len {K : Frag} {r : List Addr} {H : Hp} : ∀ {fs : List (Str × D)} {ys : List (Str × V)}, RelF K r H fs ys → fs.length = ys.length
  | [], ys, h => by rw [show ys = [] from h]; rfl
  | p :: fs, ys, h => by
    obtain ⟨v, vs, rfl, _, h2⟩ := h
    simp [relF_len h2]
theorem s_fld (G : Good P go k X sc W) {f : Str} (ha : PE X a (RE P go X W a')) (hb : attributeBase a f X.env (eval a X.env) = eval a X.env) : PE X (.Attribute a f pos) (RE P go X W (.fld a' f)) := (pe_fld ha hb).weak fun σ H Q ⟨r, env, st, he, S, h⟩ => by
  unfold evE at h
  refine rd_of he S h.bind fun x st1 r1 H1 v u1 S1 hx h1 => ?_
  split at h1
  · rename_i n
    split at h1
    · rename_i c fs e1
      split at h1
      · rename_i hf
        split at h1
        · rename_i d e2
          unfold RelEv Rel at hx
          obtain ⟨p, h2, rfl⟩ := hx
          obtain ⟨C, dx, fv, z1, z2, z3⟩ := S1.ok n p _ h2 e1
          obtain ⟨cl, na⟩ := G.tab.na c f C hf z1
          obtain ⟨v, l1, l2⟩ := (relF_get z3).1 d e2
          exact ⟨p, C, dx, fv, v, rfl, z2, cl, na, l1, post_ok h1 S1 _ l2⟩
        · exact h1.elim
      · exact h1.elim
    · exact h1.elim
  · exact h1.elim
end
end SI

set_option maxHeartbeats 2000000
/-! SI 7b: sorted of tuples of whole numbers and texts; list(reversed(..)). -/
namespace SI
open PySem L2 PySem.Spec PyProof.Rows
/-! ### the order of pieces -/
theorem ltS_irr (x : Str) : ltS x x = false := decide_eq_false (List.lt_irrefl _)
theorem ltS_trans {x y z : Str} (h : ltS x y = true) (g : ltS y z = true) : ltS x z = true := decide_eq_true (List.lt_trans (of_decide_eq_true h) (of_decide_eq_true g))
theorem ltS_tri {x y : Str} (h : ltS x y = false) (g : ltS y x = false) : x = y := by
  have h1 : ¬ x.cps.toList < y.cps.toList := of_decide_eq_false h
  have h2 : ¬ y.cps.toList < x.cps.toList := of_decide_eq_false g
  have h3 : x.cps.toList = y.cps.toList := List.le_antisymm (List.not_lt.mp h2) (List.not_lt.mp h1)
  obtain ⟨a⟩ := x
  obtain ⟨b⟩ := y
  have : a = b := Array.toList_inj.mp h3
  rw [this]
theorem ltPc_irr (x : Pc) : ltPc x x = false := by
  cases x with
  | inl i => exact decide_eq_false (Int.lt_irrefl _)
  | inr s => exact ltS_irr s
theorem ltPc_trans {x y z : Pc} (h : ltPc x y = true) (g : ltPc y z = true) : ltPc x z = true := by
  cases x <;> cases y <;> cases z <;> first | (cases h; done) | (cases g; done) | rfl | skip
  · exact decide_eq_true (Int.lt_trans (of_decide_eq_true h) (of_decide_eq_true g))
  · exact ltS_trans h g
theorem ltPc_tri {x y : Pc} (h : ltPc x y = false) (g : ltPc y x = false) : x = y := by
  cases x <;> cases y <;> first | (cases h; done) | (cases g; done) | skip
  · have h1 := of_decide_eq_false h
    have h2 := of_decide_eq_false g
    congr 1; omega
  · rw [ltS_tri h g]
theorem ltPs_nil {y : List Pc} : ltPs [] y = !y.isEmpty := by cases y <;> rfl
theorem ltPs_irr : ∀ x : List Pc, ltPs x x = false
  | [] => rfl
  | p :: x => by unfold ltPs; rw [if_pos rfl]; exact ltPs_irr x
theorem ltPs_trans : ∀ {x y z : List Pc}, ltPs x y = true → ltPs y z = true → ltPs x z = true
  | [], [], _, h, _ => by cases h
  | [], _ :: _, [], _, g => by cases g
  | [], _ :: _, _ :: _, _, _ => rfl
  | _ :: _, [], _, h, _ => by cases h
  | _ :: _, _ :: _, [], _, g => by cases g
  | p :: x, q :: y, r :: z, h, g => by
    unfold ltPs at *
    by_cases e : p = q
    · subst e
      rw [if_pos rfl] at h
      by_cases f : p = r
      · rw [if_pos f] at g ⊢
        exact ltPs_trans h g
      · rw [if_neg f] at g ⊢
        exact g
    · rw [if_neg e] at h
      by_cases f : q = r
      · subst f
        rw [if_neg e]; exact h
      · rw [if_neg f] at g
        have t := ltPc_trans h g
        rw [if_neg (fun z => by subst z; rw [ltPc_irr] at t; cases t)]
        exact t
theorem ltPs_tri : ∀ {x y : List Pc}, ltPs x y = false → ltPs y x = false → x = y
  | [], [], _, _ => rfl
  | [], _ :: _, h, _ => by cases h
  | _ :: _, [], _, g => by cases g
  | p :: x, q :: y, h, g => by
    unfold ltPs at h g
    by_cases e : p = q
    · subst e
      rw [if_pos rfl] at h g
      rw [ltPs_tri h g]
    · rw [if_neg e] at h
      rw [if_neg (fun z => e z.symm)] at g
      exact absurd (ltPc_tri h g) e
theorem swo_of {α : Type} (k : α → List Pc) : SrtO.Swo fun x y => ltPs (k x) (k y) := by
  refine ⟨fun x y h => ?_, fun x y z h1 h2 => ?_⟩
  · cases q : ltPs (k y) (k x) with
    | false => rfl
    | true =>
      have := ltPs_trans h q
      rw [ltPs_irr] at this
      cases this
  · cases q : ltPs (k z) (k x) with
    | false => rfl
    | true =>
      exfalso
      cases q2 : ltPs (k y) (k z) with
      | true =>
        have := ltPs_trans q2 q
        rw [h1] at this
        cases this
      | false =>
        have e := ltPs_tri q2 h2
        rw [e, q] at h1
        cases h1
/-! ### the sort by insertion is the one -/
section
variable {α : Type} {lt : α → α → Bool}
theorem ins_mem {x y : α} : ∀ {l : List α}, y ∈ insBy lt x l ↔ y = x ∨ y ∈ l
  | [] => by simp [insBy]
  | z :: l => by
    unfold insBy
    split
    · simp only [List.mem_cons, ins_mem (l := l)]
      exact ⟨fun h => by rcases h with h | h | h <;> simp [h], fun h => by rcases h with h | h | h <;> simp [h]⟩
    · simp
theorem ins_sorted (O : SrtO.Swo lt) {x : α} : ∀ {l : List α}, SrtO.Srtd lt l → SrtO.Srtd lt (insBy lt x l)
  | [], _ => List.pairwise_singleton _ _
  | z :: l, h => by
    unfold insBy
    obtain ⟨h1, h2⟩ := List.pairwise_cons.mp h
    split
    · rename_i e
      refine List.pairwise_cons.mpr ⟨fun y hy => ?_, ins_sorted O h2⟩
      rcases ins_mem.mp hy with rfl | hy
      · exact O.asym _ _ e
      · exact h1 y hy
    · rename_i e
      have e' : lt z x = false := by cases q : lt z x with | false => rfl | true => exact absurd q e
      refine List.pairwise_cons.mpr ⟨fun y hy => ?_, h⟩
      rcases List.mem_cons.mp hy with rfl | hy
      · exact e'
      · exact O.tr x z y e' (h1 y hy)
theorem ins_stb (O : SrtO.Swo lt) {x : α} : ∀ {l : List α}, SrtO.Stb lt (insBy lt x l) (x :: l)
  | [] => SrtO.Stb.refl _
  | z :: l => by
    unfold insBy
    split
    · rename_i e
      have ih := ins_stb O (x := x) (l := l)
      have a : SrtO.Stb lt (z :: insBy lt x l) (z :: x :: l) := (SrtO.Stb.refl [z]).app ih
      have b : SrtO.Stb lt (z :: x :: l) (x :: z :: l) := (SrtO.Stb.swap O (A := [z]) (B := [x]) fun p hp q hq => by
        rw [List.mem_singleton.mp hp, List.mem_singleton.mp hq]; exact e).app (SrtO.Stb.refl l)
      exact a.trans b
    · exact SrtO.Stb.refl _
theorem sort_sorted (O : SrtO.Swo lt) : ∀ l : List α, SrtO.Srtd lt (sortBy lt l)
  | [] => List.Pairwise.nil
  | x :: l => ins_sorted O (sort_sorted O l)
theorem sort_stb (O : SrtO.Swo lt) : ∀ l : List α, SrtO.Stb lt (sortBy lt l) l
  | [] => SrtO.Stb.refl _
  | x :: l => (ins_stb O).trans ((SrtO.Stb.refl [x]).app (sort_stb O l))
theorem sort_only (O : SrtO.Swo lt) {l m : List α} (h1 : SrtO.Srtd lt m) (h2 : SrtO.Stb lt m l) : m = sortBy lt l := by
  refine SrtO.stb_uniq O h1 (sort_sorted O l) (h2.trans ⟨(sort_stb O l).perm.symm, fun x => ((sort_stb O l).cls x).symm⟩)
theorem ins_map {β : Type} {lt2 : β → β → Bool} {f : α → β} {x : α} : ∀ {l : List α}, (∀ y ∈ l, lt y x = lt2 (f y) (f x)) → (insBy lt x l).map f = insBy lt2 (f x) (l.map f)
  | [], _ => rfl
  | z :: l, h => by
    rw [List.map_cons]
    unfold insBy
    have e := h z (by simp)
    cases q : lt z x with
    | true =>
      rw [q] at e
      rw [if_pos rfl, if_pos e.symm, List.map_cons, ins_map fun y hy => h y (by simp [hy])]
    | false =>
      rw [q] at e
      rw [if_neg (by simp), if_neg (by rw [← e]; simp)]
      rfl
theorem sort_mem {y : α} : ∀ {l : List α}, y ∈ sortBy lt l ↔ y ∈ l
  | [] => Iff.rfl
  | x :: l => by unfold sortBy; rw [ins_mem, sort_mem, List.mem_cons]
theorem sort_map {β : Type} {lt2 : β → β → Bool} {f : α → β} : ∀ {l : List α}, (∀ x ∈ l, ∀ y ∈ l, lt y x = lt2 (f y) (f x)) → (sortBy lt l).map f = sortBy lt2 (l.map f)
  | [], _ => rfl
  | x :: l, h => by
    unfold sortBy
    rw [List.map_cons, ins_map fun y hy => h x (by simp) y (by rw [sort_mem] at hy; simp [hy]), sort_map fun a ha b hb => h a (by simp [ha]) b (by simp [hb])]
end
/-! ### the machine's sort of tuples -/
def pcV : Pc → V
  | .inl i => .int i
  | .inr s => .str s
/-- a value that is a piece -/
def PcU : Pc → Value → Prop
  | .inl i, u => ∃ t, u = .int i t
  | .inr s, u => ∃ t, u = .str s t
theorem pcU_of {p : Pc} {u : Value} (h : RelV (pcV p) u) : PcU p u := by
  cases p <;> exact h
section
variable {prog : Program} {w : World} {A : Around} {s : Shared}
theorem pc_eqAt {p q : Pc} {u v : Value} (hp : PcU p u) (hq : PcU q v) (hs : pcSh p = pcSh q) : SeqAt.EqAt A s u v (decide (p = q)) := by
  cases p <;> cases q <;> first | (cases hs; done) | skip
  · obtain ⟨t, rfl⟩ := hp
    obtain ⟨t', rfl⟩ := hq
    rename_i i j
    rw [show decide (Sum.inl i = (Sum.inl j : Pc)) = (i == j) by rw [Bool.eq_iff_iff]; simp]
    exact SeqAt.EqAt.int_int _ _ _ _
  · obtain ⟨t, rfl⟩ := hp
    obtain ⟨t', rfl⟩ := hq
    rename_i i j
    rw [show decide (Sum.inr i = (Sum.inr j : Pc)) = (i == j) by rw [Bool.eq_iff_iff]; simp]
    exact SeqAt.EqAt.str_str _ _ _ _
/-- the tuples' order, from the place i on -/
theorem pc_lex {b : Bool} {Q : Bool → Shared → Prop} {fin : Bool} (hf : fin = false) : ∀ (ps qs : List Pc) (us vs : List Value) (i : Nat), Paired PcU ps us → Paired PcU qs vs → ps.map pcSh = qs.map pcSh → (i = 0 → b = true → ∃ x r, ps = Sum.inl x :: r) → Q (ltPs ps qs) s →
    PySem.W.KatLex prog w A b fin Q (us.zip vs) i s
  | [], [], us, vs, i, hu, hv, _, _, q => by
    cases hu; cases hv
    rw [hf]
    exact PySem.W.kat_nil q
  | [], _ :: _, _, _, _, _, _, h, _, _ => by cases h
  | _ :: _, [], _, _, _, _, _, h, _, _ => by cases h
  | p :: ps, q :: qs, us, vs, i, hu, hv, h, h0, k => by
    cases hu with
    | @cons _ u _ us' pu hu =>
      cases hv with
      | @cons _ v _ vs' qv hv =>
        simp only [List.map_cons, List.cons.injEq] at h
        show PySem.W.KatLex prog w A b fin Q ((u, v) :: us'.zip vs') i s
        refine PySem.W.kat_cons (pc_eqAt pu qv h.1 prog w _ _ ?_)
        unfold ltPs at k
        refine PySem.W.kat_go (fun e1 => ?_) (fun e1 => ?_)
        · have e : p = q := of_decide_eq_true e1
          rw [if_pos e] at k
          exact PySem.W.kat_yes (pc_lex hf ps qs us' vs' (i + 1) hu hv h.2 (fun z => absurd z (Nat.succ_ne_zero i)) k)
        · have e : ¬ p = q := of_decide_eq_false e1
          rw [if_neg e] at k
          refine PySem.W.kat_no ?_
          cases i with
          | zero =>
            cases b with
            | true =>
              obtain ⟨x, r, er⟩ := h0 rfl rfl
              cases er
              cases q with
              | inr z => cases h.1
              | inl y =>
                obtain ⟨t, rfl⟩ := pu
                obtain ⟨t', rfl⟩ := qv
                exact oneLt_int k
            | false =>
              refine PySem.W.kat_one _ _ ?_
              cases p <;> cases q <;> first | (cases h.1; done) | skip
              · obtain ⟨t, rfl⟩ := pu
                obtain ⟨t', rfl⟩ := qv
                exact PyProof.Rows.lt_int k
              · obtain ⟨t, rfl⟩ := pu
                obtain ⟨t', rfl⟩ := qv
                exact PyProof.Rows.lt_str k
          | succ n =>
            have eb : (b && (n + 1 == 0)) = false := by cases b <;> rfl
            rw [eb]
            refine PySem.W.kat_one _ _ ?_
            cases p <;> cases q <;> first | (cases h.1; done) | skip
            · obtain ⟨t, rfl⟩ := pu
              obtain ⟨t', rfl⟩ := qv
              exact PyProof.Rows.lt_int k
            · obtain ⟨t, rfl⟩ := pu
              obtain ⟨t', rfl⟩ := qv
              exact PyProof.Rows.lt_str k
/-- a tuple of pieces in the heap -/
def IsPcs (h : Heap) (v : Value) (ps : List Pc) : Prop := ∃ a o us n, v = .ref a ∧ h.get? a = some o ∧ o.cls = .type "tuple" ∧ o.data = .seq (List.toArray us) n ∧ Paired PcU ps us
theorem pcs_cmp {vs : List Value} {k : Value → List Pc} {bs : List Bool} (hp : ∀ v ∈ vs, IsPcs s.heap v (k v)) (hk : ∀ v ∈ vs, (k v).map pcSh = false :: bs) :
    SrtO.Cmp prog w A s (tuples' true) (fun p => p.1 ∈ vs) (SrtO.lt2 fun v u => ltPs (k v) (k u)) := by
  intro p q hm hm'
  have h1 := hp _ hm
  have h2 := hp _ hm'
  have k1 := hk _ hm
  have k2 := hk _ hm'
  show wpAny (model prog w) A (keyLt' (tuples' true) p.1 q.1) (fun r s' => s' = s ∧ r = ltPs (k p.1) (k q.1)) (fun _ _ => False) s
  obtain ⟨a, o, us, n, e, ho, hc, hd, hu⟩ := h1
  obtain ⟨a', o', us', n', e', ho', hc', hd', hu'⟩ := h2
  generalize k p.1 = x at *
  generalize k q.1 = y at *
  rw [e, e']
  refine PySem.W.kat_lt ho hd ho' hd' ?_
  have l1 : us.length = x.length := (Paired.length hu).symm
  have l2 : us'.length = y.length := (Paired.length hu').symm
  have l3 : x.length = y.length := by
    have e1 := congrArg List.length (k1.trans k2.symm)
    simpa using e1
  refine pc_lex (decide_eq_false (by simp only [List.size_toArray]; omega)) x y us us' 0 hu hu' (k1.trans k2.symm) (fun _ _ => ?_) ⟨rfl, rfl⟩
  cases x with
  | nil => cases k1
  | cons z r =>
    cases z with
    | inl i => exact ⟨i, r, rfl⟩
    | inr z => cases k1
theorem pcs_firsts {h : Heap} {k : Value → List Pc} {bs : List Bool} : ∀ {vs : List Value}, (∀ v ∈ vs, IsPcs h v (k v)) → (∀ v ∈ vs, (k v).map pcSh = false :: bs) → ∃ fs, PySem.W.KatTups h vs fs ∧ fs.length = vs.length ∧ ∀ f ∈ fs, ∃ i t, f = Value.int i t
  | [], _, _ => ⟨[], PySem.W.KatTups.nil, rfl, fun f hf => by simp at hf⟩
  | v :: vs, hp, hk => by
    obtain ⟨fs, h1, h2, h3⟩ := pcs_firsts (vs := vs) (fun u hu => hp u (by simp [hu])) fun u hu => hk u (by simp [hu])
    obtain ⟨a, o, us, n, rfl, ho, hc, hd, hu⟩ := hp v (by simp)
    have hkv := hk _ (List.mem_cons_self (a := Value.ref a) (l := vs))
    generalize k (Value.ref a) = x at *
    cases x with
    | nil => cases hkv
    | cons z r =>
      cases z with
      | inr z => cases hkv
      | inl i =>
        cases hu with
        | @cons _ u _ us' pu hu =>
          obtain ⟨t, rfl⟩ := pu
          refine ⟨.int i t :: fs, PySem.W.KatTups.cons ho hc hd (by simp) h1, by simp [h2], fun f hf => ?_⟩
          rcases List.mem_cons.mp hf with rfl | hf
          · exact ⟨i, t, rfl⟩
          · exact h3 f hf
theorem pcs_sortable {a : Addr} {vs : List Value} {k : Value → List Pc} {bs : List Bool} (h0 : 0 < vs.length) (hp : ∀ v ∈ vs, IsPcs s.heap v (k v)) (hk : ∀ v ∈ vs, (k v).map pcSh = false :: bs) (ha : ∀ o, s.heap.get? a = some o → o.cls ≠ .type "tuple") :
    SrtO.SortableO prog w A s a vs fun v u => ltPs (k v) (k u) := by
  intro h' keep
  have hp' : ∀ v ∈ vs, IsPcs h' v (k v) := fun v hm => by
    obtain ⟨b, o, us, n, e, ho, hc, hd, hu⟩ := hp v hm
    exact ⟨b, o, us, n, e, keep b o (fun z => by subst z; exact ha o ho hc) ho, hc, hd, hu⟩
  obtain ⟨fs, h1, h2, h3⟩ := pcs_firsts hp' hk
  refine ⟨tuples' true, fun Q E hq => ?_, pcs_cmp hp' hk⟩
  refine PySem.W.kat_kind (T := .type "int") h1 (by omega) (fun f hm => ?_) (by rfl) ?_
  · obtain ⟨x, t, rfl⟩ := h3 f hm
    exact PySem.W.Looks.now
  · rw [show (Value.type "int" != Value.type "tuple") = true by first | decide +kernel | rfl | decide]
    exact hq
end
/-- sorted(xs), xs a list of tuples of pieces that k tells -/
def rSortedG (K : Frag) : List V → Hp → VK → Prop := fun vs H Q => ∃ (a : Addr) (xs : List V) (k : V → List Pc) (bs : List Bool), vs = [V.ref a] ∧ SqL K H a xs ∧ (∀ x ∈ xs, ∃ t, x = V.ref t ∧ H t = some (.tup ((k x).map pcV))) ∧ (∀ x ∈ xs, (k x).map pcSh = false :: bs) ∧
  ∀ p, H p = none → Q (.ref p) (upd H p (.lst (sortBy (fun x y => ltPs (k x) (k y)) xs)))
theorem pcs_of {ps : List Pc} {us : List Value} (h : Vals (ps.map pcV) us) : Paired PcU ps us := by
  induction ps generalizing us with
  | nil => cases h; exact .nil
  | cons p ps ih =>
    cases h with
    | cons h1 h2 => exact .cons (pcU_of h1) (ih h2)
section
variable {X : Cx}
theorem cr_sortedG : CallR X (.builtin "sorted") (rSortedG X.K) := by
  intro pins s σ H vs us Q I r h
  obtain ⟨a, xs, k, bs, rfl, hs, hx, hk, q⟩ := h
  obtain ⟨its, rv, hl, hz⟩ := I.list hs
  obtain ⟨u, rfl, ru⟩ := vals1 r
  obtain rfl : u = Value.ref a := ru
  obtain ⟨e1, e2⟩ := refs_back rv fun x m => by
    obtain ⟨t, e, _⟩ := hx x m
    exact ⟨t, e⟩
  have hp : ∀ v ∈ its, IsPcs s.heap v (k (backV v)) := fun v hv => by
    obtain ⟨t, rfl⟩ := e2 v hv
    have hm : V.ref t ∈ xs := by rw [e1]; exact List.mem_map.mpr ⟨_, hv, rfl⟩
    obtain ⟨t', e, ht⟩ := hx _ hm
    cases e
    obtain ⟨_, its2, r2, o, ho, hc, n, hd⟩ := I.hok _ _ ht
    exact ⟨t, o, its2, n, rfl, ho, hc, hd, pcs_of r2⟩
  have hkk : ∀ v ∈ its, (k (backV v)).map pcSh = false :: bs := fun v hv => hk _ (by rw [e1]; exact List.mem_map.mpr ⟨_, hv, rfl⟩)
  have hzl : its.length ≤ sizeLine := by rw [← rv.length]; exact hz
  refine SrtO.sorted_ord (swo_of fun u => k (backV u)) hl.isList hzl (fun h2 h₁ b ha kk => ?_) fun out hs hb => ?_
  · refine pcs_sortable (s := { s with heap := h₁ }) (bs := bs) (by omega) (fun v hm => ?_) hkk fun o e => ?_
    · obtain ⟨c, o, us, n, e, ho, hc, hd, hu⟩ := hp v hm
      exact ⟨c, o, us, n, e, (kk c o ho).2, hc, hd, hu⟩
    · rw [show h₁.get? b = _ from ha] at e
      cases e
      intro c
      exact absurd (Value.type.inj c) (by decide)
  · have h3 : ∀ u ∈ out, ∃ a, u = Value.ref a := fun u hu => e2 u (hb.perm.mem_iff.mp hu)
    have eo : out.map backV = sortBy (fun x y => ltPs (k x) (k y)) xs := by
      rw [e1]
      exact sort_only (swo_of k) (SrtO.srtd_map hs) (SrtO.Stb.map (swo_of k) backV hb)
    obtain ⟨n, hn⟩ := sortedAll_at s.heap its out.toArray
    refine ⟨.ref (s.heap.objs.size + 1), upd H (s.heap.objs.size + 1) (.lst (out.map backV)), I.laid (t' := s.toks) (fun b o e => sortedAll_old e) (Nat.le_succ _) ⟨?_, out, n, vals_back h3, hn⟩, rfl, ?_⟩
    · rw [List.length_map, hb.len]
      exact hzl
    · rw [eo]
      exact q _ (I.hok.fresh (Nat.le_succ _))
end
end SI

set_option maxHeartbeats 2000000
/-! SI 7c: list(reversed(a list)). -/
namespace SI
open PySem L2 PySem.Spec PyProof.Rows
/-- an empty list's object -/
abbrev nilO (c : Nat) : Obj := { cls := .type "list", data := .seq #[] c }
abbrev revAt (items : Array Value) (i : Nat) (v : Value) : Prop := items[items.size - 1 - i]? = some v
section
variable {prog : Program} {w : World} {A : Around} {E : Value → Shared → Prop} {s : Shared} {it l S : Addr} {items : Array Value}
theorem rev_extend {R : Result → Shared → Prop} {c₀ : Nat} (hh : A.handled = none) (hit : s.heap.IsRevIter it l ((items.size : Int) - 1)) (hl : s.heap.IsList l items) (hne : l ≠ it) (hn : items.size ≤ sizeLine) (h1 : S ≠ it) (h2 : S ≠ l) (hS : s.heap.get? S = some (nilO c₀))
    (hR : ∀ h' tk acc c', (∀ b o, b ≠ S → b ≠ it → s.heap.get? b = some o → h'.get? b = some o) → h'.get? S = some { cls := .type "list", dict := none, data := .seq acc c', slots := #[] } → ItemsOf (revAt items) acc items.size → R (.ok (.ret .none)) { s with heap := h', toks := tk }) :
    wpAny (model prog w) A.in1 (Builtin.List.listExtendWith (.ref S) (.ref it) .none)
      (fun fin s' => match fin with
        | .done f => R (.ok f) s'
        | .again c' => c'.quiet = true ∧ codeAny (model prog w) A c' R s') (fun e s' => R (.error e) s') s := by
  have W := (Walks.listRev (prog := prog) (w := w) (A := A.in1) hh it l hne items).toS
  have hSf : S ∉ [it, l] := by simp [h1, h2]
  have hT : s.TypeIs (.ref it) "list_reverseiterator" := hit.typeIs
  have same : Builtin.List.listSameRef (.ref S) (.ref it) = false := by simp [Builtin.List.listSameRef, h1]
  have k1 : (Value.type "list_reverseiterator" == Value.type "list") = false := by decide +kernel
  have k2 : (Value.type "list_reverseiterator" == Value.type "tuple") = false := by decide +kernel
  unfold Builtin.List.listExtendWith
  refine wpAny_bind (wpAny_typeOf hT ?_)
  simp only [same, k1, k2, Bool.or_false, if_false, Bool.false_eq_true]
  refine wpAny_bind (wpAny_pyIter_revIter hit ?_)
  refine wpAny_bind (wpAny_holding ?_)
  unfold Builtin.List.listLengthHint
  refine wpAny_bind (wpAny_specialOf hT RT.nolen_lri ?_)
  show wpAny _ A.in1 (specialOf (.ref it) (Str.ofString "__length_hint__") >>= _) _ _ _
  refine wpAny_bind (wpAny_specialOf hT RT.hint_lri ?_)
  generalize hid : ("list_reverseiterator.__length_hint__" : String) = hintId
  wp_delta
  have esp : splitId hintId = some ("list_reverseiterator", "__length_hint__") := by subst hid; decide +kernel
  rw [esp]
  subst hid
  refine wpAny_bind (wpAny_isInstance (b := true) hT (by rw [isSubtype_type]; kernel_rfl) ?_)
  refine wpAny_pure ?_
  rw [if_neg (by decide)]
  have e0 : ((items.size : Nat) : Int) - 1 - ((0 : Nat) : Int) = (items.size : Int) - 1 := by omega
  refine wpAny_pure ⟨plainId_quiet F.plain_extend_loop _, codeAny_extend_loopS W hn S hSf _ items.size 0 _ #[] c₀ rfl (Nat.zero_le _) ⟨Nat.zero_le _, by rw [e0]; exact hit, hl⟩ hS (ItemsOf.nil _) fun s2 acc c2 hm hS2 hacc => ?_⟩
  rw [Moved.eq_with hm]
  exact hR _ _ acc c2 (fun b o b1 b2 e => hm.heap b o (by simp [b1, b2]) e) hS2 hacc
theorem call_list_rev {Q : Value → Shared → Prop} (hh : A.handled = none) (hit : s.heap.IsRevIter it l ((items.size : Int) - 1)) (hl : s.heap.IsList l items) (hne : l ≠ it) (hn : items.size ≤ sizeLine)
    (hQ : ∀ h' tk acc c', (∀ b o, b ≠ it → s.heap.get? b = some o → h'.get? b = some o) → h'.get? s.heap.objs.size = some { cls := .type "list", dict := none, data := .seq acc c', slots := #[] } → ItemsOf (revAt items) acc items.size → Q (.ref s.heap.objs.size) { s with heap := h', toks := tk }) :
    wpAny (model prog w) A (call (.type "list") [.ref it]) Q E s := by
  obtain ⟨oi, hoi, _⟩ := id hit
  obtain ⟨ol, hol, _⟩ := id hl
  have n1 : s.heap.objs.size ≠ it := Nat.ne_of_gt (Heap.lt_size hoi)
  have n2 : s.heap.objs.size ≠ l := Nat.ne_of_gt (Heap.lt_size hol)
  refine callType_codes (Q₁ := fun obj s₁ => obj = .ref s.heap.objs.size ∧ s₁ = { s with heap := s.heap.push (nilO 0) }) F.called_list (F.typeCall_list_1 _) F.entry_list_init (code_list_new _ ⟨rfl, rfl⟩) fun obj s₁ h₁ => ?_
  obtain ⟨rfl, rfl⟩ := h₁
  have hS : (s.heap.push (nilO 0)).get? s.heap.objs.size = some (nilO 0) := Heap.get?_push_size _ rfl
  refine ⟨⟨_, hS, rfl⟩, F.args_list_init_2 _ _, ?_⟩
  show wpAny _ _ (do
    let old ← Builtin.List.listItems (.ref s.heap.objs.size)
    Builtin.List.listUpdate (.ref s.heap.objs.size) (fun _ => #[])
    letGo old.toList.reverse
    Builtin.List.listExtendWith (.ref s.heap.objs.size) (.ref it) .none) _ _ { s with heap := s.heap.push (nilO 0) }
  refine wpAny_bind ?_
  unfold Builtin.List.listItems
  refine wpAny_bind (wpAny_seqItems hS rfl (wpAny_pure ?_))
  show wpAny _ _ (updateSeq s.heap.objs.size (fun _ => #[]) >>= fun _ => letGo (#[] : Array Value).toList.reverse >>= fun _ => Builtin.List.listExtendWith (.ref s.heap.objs.size) (.ref it) .none) _ _ { s with heap := s.heap.push (nilO 0) }
  refine wpAny_bind (wpAny_updateSeq hS rfl ?_)
  have hS₂ := Heap.get?_update_self (Obj.mapSeq (fun _ => (#[] : Array Value))) hS rfl
  have oth : ∀ b o, b ≠ s.heap.objs.size → (s.heap.push (nilO 0)).get? b = some o → ((s.heap.push (nilO 0)).update s.heap.objs.size (Obj.mapSeq (fun _ => (#[] : Array Value)))).get? b = some o := fun b o hb e => by
    rw [Heap.get?_update_other _ _ (Ne.symm hb)]; exact e
  have up : ∀ b o, s.heap.get? b = some o → ((s.heap.push (nilO 0)).update s.heap.objs.size (Obj.mapSeq (fun _ => (#[] : Array Value)))).get? b = some o := fun b o e => oth b o (Nat.ne_of_lt (Heap.lt_size e)) (Heap.get?_push_of_some _ e)
  refine wpAny_bind (wpAny_letGo ?_)
  refine rev_extend (A := A.in1) hh (hit.at fun o e => up it o e) (hl.at fun o e => up l o e) hne hn n1 n2 hS₂ fun h' tk acc c' hk hS' hacc => ?_
  exact ⟨rfl, hQ h' tk acc c' (fun b o hb e => hk b o (Nat.ne_of_lt (Heap.lt_size e)) hb (up b o e)) hS' hacc⟩
end
/-- list(reversed(x)), x a list -/
def tListRev (K : Frag) (te : TE) : TE := fun σ H Q => te σ H fun v H1 => ∃ (a : Addr) (xs : List V), v = .ref a ∧ SqL K H1 a xs ∧ ∀ q, H1 q = none → Q (.ref q) (upd H1 q (.lst xs.reverse))
section
variable {X : Cx}
theorem pe_listRev {e : Expr} {te : TE} {p p2 pos pos2 : Pos} (hc : X.calm = true) (hg : Gl X "list") (hm : X.mg "list" = none) (hg2 : Gl X "reversed") (hm2 : X.mg "reversed" = none) (he : PE X e te) (hs : isStar e = false) :
    PE X (.Call (.Name "list" p) [.Call (.Name "reversed" p2) [e] [] pos2] [] pos) (tListRev X.K te) := by
  refine ⟨fun pins s σ H Q I h => ?_⟩
  refine Call_ (ld_blt I hg hm (show bootBuiltins "list" = some (.type "list") by decide +kernel) (PyProof.Rows.callWith_type1 (args_cons (Call_ (ld_blt I hg2 hm2 PyProof.Rows.boot_reversed (PyProof.Rows.callWith_type1
    (args_cons (thn (he.run pins s σ H _ I h) fun u s1 ⟨v, H1, I1, r1, q1⟩ => args_nil ?_) (star_cons hs)) (star_cons hs) rfl))) rfl) rfl rfl))
  obtain ⟨a, xs, ev, hq, q⟩ := q1
  subst ev
  obtain rfl : u = Value.ref a := r1
  obtain ⟨its, rv, pl, hz⟩ := I1.list hq
  refine call_reversed_list pl.isList (args_nil ?_)
  have old : ∀ b o, s1.heap.get? b = some o → (s1.heap.push (revObj a ((its.toArray.size : Int) - 1))).get? b = some o := fun b o e => Heap.get?_push_of_some _ e
  have I2 : Inv X pins σ H1 { s1 with heap := s1.heap.push (revObj a ((its.toArray.size : Int) - 1)) } := I1.kept (t' := s1.toks) old
  obtain ⟨f0, f1, f2, f3, f4, f5⟩ := I1.fpOk (H' := H1) (b := s1.heap.objs.size) (Nat.le_refl _) (I1.hok.fresh (Nat.le_refl _))
  have hl := pl.isList
  obtain ⟨ol, hol, _⟩ := id hl
  have hne : a ≠ s1.heap.objs.size := Nat.ne_of_lt (Heap.lt_size hol)
  have hn : its.toArray.size ≤ sizeLine := by
    rw [List.size_toArray, ← rv.length]; exact hz
  refine call_list_rev (s := { s1 with heap := s1.heap.push (revObj a ((its.toArray.size : Int) - 1)) }) (I1.ok.hd hc) ⟨_, Heap.get?_push_size _ rfl, rfl, rfl⟩ (hl.push _) hne hn fun h' tk acc c' hk hD hi => ?_
  have hsz : (s1.heap.push (revObj a ((its.toArray.size : Int) - 1))).objs.size = s1.heap.objs.size + 1 := Heap.size_push _ _
  have hfr : H1 (s1.heap.objs.size + 1) = none := I1.hok.fresh (Nat.le_succ _)
  have hD' : h'.get? (s1.heap.objs.size + 1) = some { cls := .type "list", dict := none, data := .seq acc c', slots := #[] } := by rw [← hsz]; exact hD
  show EP X pins σ Q (.ref (s1.heap.push (revObj a ((its.toArray.size : Int) - 1))).objs.size) _
  rw [hsz]
  refine ⟨.ref (s1.heap.objs.size + 1), upd H1 (s1.heap.objs.size + 1) (.lst xs.reverse), ?_, rfl, q _ hfr⟩
  refine I2.turnedNew (ch := [s1.heap.objs.size]) (T := s1.heap.objs.size + 1) (t' := tk) (fun b o hb e => hk b o (by simpa using hb) e) (fun b hb => ?_) (Nat.le_of_eq hsz) ?_
  · have e : b = s1.heap.objs.size := by simpa using hb
    subst e
    exact ⟨f0, f1, f2, f3, f4, f5⟩
  · refine ⟨by rw [List.length_reverse]; exact hz, acc.toList, c', RT.vals_rev rv hi, ?_⟩
    rw [Array.toArray_toList]
    exact hD'
end
end SI

set_option maxHeartbeats 2000000
/-! SI 8: built-ins, calls. -/
namespace SI
open PySem L2
section
variable {P : Prog} {go : Go} {k : Nat} {X : Cx} {sc : Scope} {W : WX} {a b c e : Expr} {a' b' c' e' : E} {es : List Expr} {es' : Es} {pos p : Pos}
def BiP (X : Cx) (b : BI) (r : List V → Hp → VK → Prop) : Prop := ∀ {r0 : List Addr} {st : Store} {H0 H : Hp} {xs : List Ev} {vs : List V} {z : Ev} {Q : VK}, Sim X.K X.mg r0 st H → RelEvs X.K r0 H0 H xs vs → biD b xs st = some z →
  (∀ r' H' v, Up r0 H r' H' → Sim X.K X.mg r' st H' → RelEv X.K r' H H' z v → Q v H') → r vs H Q
theorem one_of {K : Frag} {r : List Addr} {H0 H : Hp} {x : Ev} {vs : List V} (h : RelEvs K r H0 H [x] vs) : ∃ v, vs = [v] ∧ RelEv K r H0 H x v := by
  obtain ⟨v, ws, rfl, h1, _, h2⟩ := h
  rw [show ws = [] from h2]
  exact ⟨v, rfl, h1⟩
theorem two_of {K : Frag} {r : List Addr} {H0 H : Hp} {x y : Ev} {vs : List V} (h : RelEvs K r H0 H [x, y] vs) : ∃ v w, vs = [v, w] ∧ RelEv K r H0 H x v ∧ RelEv K r H0 H y w := by
  obtain ⟨v, ws, rfl, h1, _, h2⟩ := h
  obtain ⟨w, rfl, h3⟩ := one_of h2
  exact ⟨v, w, rfl, h1, h3⟩
theorem lenLe {n : Nat} (h : n < lim) : n ≤ sizeLine := by rw [sizeLine_eq]; unfold lim at h; omega
theorem call_lenR : CallR X (.builtin "len") (fun xs H Q => ∃ a kvs, xs = [V.ref a] ∧ Rd H a (.dK kvs) ∧ Q (.int kvs.length) H) := by
  intro pins s σ H xs us Q I r h
  obtain ⟨a, kvs, rfl, ha, q⟩ := h
  obtain ⟨u, rfl, ru⟩ := vals1 r
  cases ru
  exact d_len I ha fun t s' I' => ⟨.int kvs.length, H, I', ⟨t, rfl⟩, q⟩
theorem bi_len : BiP X .len (fun xs H Q => (∃ x n, xs = [x] ∧ LenV X.K x H n ∧ Q (.int n) H) ∨ ∃ a kvs, xs = [V.ref a] ∧ Rd H a (.dK kvs) ∧ Q (.int kvs.length) H) := fun {r0 st H0 H xs vs z Q} S hx e q => by
  have e' : bLen xs st = some z := e
  unfold bLen at e'
  split at e'
  · split at e' <;> cases e'
    rename_i hl
    obtain ⟨v, rfl, hv⟩ := one_of hx
    rw [rel_str hv]
    exact .inl ⟨_, _, rfl, ⟨lenLe hl, rfl⟩, q r0 H _ (Up.refl r0 H) S rel_int'⟩
  · rename_i x _
    split at e'
    · rename_i kvs e2
      cases e'
      obtain ⟨v, rfl, hv⟩ := one_of hx
      obtain ⟨a, kw, rfl, hk, hr⟩ := dicE_ok S hv e2
      refine .inr ⟨a, kw, rfl, hk, ?_⟩
      rw [← hr.len]
      exact q r0 H _ (Up.refl r0 H) S rel_int'
    · cases e2 : items st x with
      | none => rw [e2] at e'; cases e'
      | some ds =>
        rw [e2] at e'; cases e'
        obtain ⟨v, rfl, hv⟩ := one_of hx
        obtain ⟨p, ys, rfl, hq, hr⟩ := items_ok S hv e2
        refine .inl ⟨_, ds.length, rfl, ?_, q r0 H _ (Up.refl r0 H) S rel_int'⟩
        rcases hq with hq | hq
        · exact .inl ⟨ys, hq, hr.length⟩
        · exact .inr ⟨ys, hq, hr.length⟩
  · cases e'
theorem bi_int : BiP X .int (fun xs H Q => ((∃ i, xs = [.int i] ∧ Q (.int i) H) ∨ ∃ k, xs = [.bl k] ∧ Q (.int (if k then 1 else 0)) H) ∨ ∃ a n, xs = [.str a] ∧ PySem.intText? a = some n ∧ a.length ≤ 640 ∧ Q (.int n) H) := fun {r0 st H0 H xs vs z Q} S hx e q => by
  have e' : bInt xs = some z := e
  unfold bInt at e'
  split at e'
  · cases e'
    obtain ⟨v, rfl, hv⟩ := one_of hx
    rw [rel_int hv]
    exact .inl (.inl ⟨_, rfl, q r0 H _ (Up.refl r0 H) S rel_int'⟩)
  · cases e'
    obtain ⟨v, rfl, hv⟩ := one_of hx
    rw [rel_bl hv]
    exact .inl (.inr ⟨_, rfl, q r0 H _ (Up.refl r0 H) S rel_int'⟩)
  · split at e'
    · rename_i s hl
      cases e2 : PySem.intText? s with
      | none => rw [e2] at e'; cases e'
      | some n =>
        rw [e2] at e'
        cases e'
        obtain ⟨v, rfl, hv⟩ := one_of hx
        rw [rel_str hv]
        exact .inr ⟨_, _, rfl, e2, hl, q r0 H _ (Up.refl r0 H) S rel_int'⟩
    · cases e'
  · cases e'
theorem bi_str : BiP X .str (fun xs H Q => (∃ i, xs = [.int i] ∧ i.natAbs.log2 < 1920 ∧ Q (.str (toString i)) H) ∨ ∃ a, xs = [.str a] ∧ Q (.str a) H) := fun {r0 st H0 H xs vs z Q} S hx e q => by
  have e' : bStr xs = some z := e
  unfold bStr at e'
  split at e'
  · split at e' <;> cases e'
    rename_i hl
    obtain ⟨v, rfl, hv⟩ := one_of hx
    rw [rel_int hv]
    exact .inl ⟨_, rfl, hl, q r0 H _ (Up.refl r0 H) S rel_str'⟩
  · cases e'
    obtain ⟨v, rfl, hv⟩ := one_of hx
    rw [rel_str hv]
    exact .inr ⟨_, rfl, q r0 H _ (Up.refl r0 H) S rel_str'⟩
  · cases e'
theorem foldMax : ∀ (ns : List Int) (i : Int), ns.foldl max i ∈ i :: ns ∧ i ≤ ns.foldl max i ∧ ∀ y ∈ ns, y ≤ ns.foldl max i
  | [], i => ⟨by simp, Int.le_refl _, fun y hy => by simp at hy⟩
  | n :: ns, i => by
    obtain ⟨h1, h2, h3⟩ := foldMax ns (max i n)
    refine ⟨?_, by simp only [List.foldl_cons]; omega, fun y hy => ?_⟩
    · simp only [List.foldl_cons]
      rcases List.mem_cons.mp h1 with e | e
      · rw [e]
        by_cases hh : i ≤ n
        · rw [Int.max_eq_right hh]; simp
        · rw [Int.max_eq_left (by omega)]; simp
      · simp [e]
    · simp only [List.foldl_cons]
      rcases List.mem_cons.mp hy with rfl | hy
      · omega
      · exact h3 y hy
theorem intsOf_rel {K : Frag} {r : List Addr} {H : Hp} {ds : List D} {vs : List V} {ns : List Int} (e : intsOf ds = some ns) (h : RelL K r H ds vs) : vs = ns.map V.int := by
  induction ds generalizing ns vs with
  | nil => cases e; exact h.unnil
  | cons d ds ih =>
    obtain ⟨v, ws, rfl, h1, h2⟩ := h.uncons
    cases d with
    | int i =>
      have e' : (intsOf ds).map (i :: ·) = some ns := e
      cases q : intsOf ds with
      | none => rw [q] at e'; cases e'
      | some l =>
        rw [q] at e'
        cases e'
        rw [ih q h2]
        unfold Rel at h1
        rw [h1]; rfl
    | _ => cases e
theorem bi_tuple : BiP X .tuple (fun xs H Q => ∃ p ys, xs = [.ref p] ∧ ((SqL X.K H p ys ∧ ∀ l, H l = none → Q (.ref l) (upd H l (.tup ys))) ∨ (SqT X.K H p ys ∧ Q (.ref p) H))) := fun {r0 st H0 H xs vs z Q} S hx e q => by
  have e' : bTuple xs st = some z := e
  unfold bTuple at e'
  split at e'
  · rename_i x
    cases e2 : items st x with
    | none => rw [e2] at e'; cases e'
    | some ds =>
      rw [e2] at e'; cases e'
      obtain ⟨v, rfl, hv⟩ := one_of hx
      have fresh : ∀ p ys, SqL X.K H p ys → RelL X.K r0 H ds ys → v = .ref p → ∃ p ys, [v] = [V.ref p] ∧ ((SqL X.K H p ys ∧ ∀ l, H l = none → Q (.ref l) (upd H l (.tup ys))) ∨ (SqT X.K H p ys ∧ Q (.ref p) H)) := fun p ys h1 h2 h3 => by
        subst h3
        exact ⟨p, ys, rfl, .inl ⟨h1, fun l hl => q r0 _ _ (Up.new hl) (S.new hl) (rel_tup ((Up.new (r := r0) hl).relL h2) upd_same)⟩⟩
      cases x with
      | t es =>
        obtain ⟨p, ys, h3, h1, h2⟩ := lstE_ok S hv (show lstE st (.t es) = some ds from e2)
        exact fresh p ys h1 h2 h3
      | v d =>
        cases d with
        | tup es =>
          cases (show some es = some ds from e2)
          obtain ⟨p, ys, rfl, h1, h2⟩ := tup_rel hv
          exact ⟨p, ys, rfl, .inr ⟨.inl (.inl h1), q r0 H _ (Up.refl r0 H) S (rel_tup h2 h1)⟩⟩
        | ref n =>
          obtain ⟨p, ys, h3, h1, h2⟩ := lstE_ok S hv (show lstE st (.v (.ref n)) = some ds from e2)
          exact fresh p ys h1 h2 h3
        | ro es =>
          obtain ⟨p, ys, h3, h1, h2⟩ := lstE_ok S hv (show lstE st (.v (.ro es)) = some ds from e2)
          exact fresh p ys h1 h2 h3
        | _ => cases e2
  · cases e'
theorem blsOf_rel {K : Frag} {r : List Addr} {H : Hp} {ds : List D} {vs : List V} {ns : List Bool} (e : blsOf ds = some ns) (h : RelL K r H ds vs) : vs = ns.map V.bl := by
  induction ds generalizing ns vs with
  | nil => cases e; exact h.unnil
  | cons d ds ih =>
    obtain ⟨v, ws, rfl, h1, h2⟩ := h.uncons
    cases d with
    | bl i =>
      have e' : (blsOf ds).map (i :: ·) = some ns := e
      cases q : blsOf ds with
      | none => rw [q] at e'; cases e'
      | some l =>
        rw [q] at e'
        cases e'
        rw [ih q h2]
        unfold Rel at h1
        rw [h1]; rfl
    | _ => cases e
theorem bi_all : BiP X .all (rAll X.K) := fun {r0 st H0 H xs vs z Q} S hx e q => by
  have e' : bAll xs st = some z := e
  unfold bAll at e'
  split at e'
  · rename_i x
    cases e2 : lstE st x with
    | none => rw [e2] at e'; cases e'
    | some ds =>
      rw [e2] at e'
      cases e3 : blsOf ds with
      | none => simp only [Option.bind_some, e3] at e'; cases e'
      | some bs =>
        simp only [Option.bind_some, e3] at e'
        cases e'
        obtain ⟨v, rfl, hv⟩ := one_of hx
        obtain ⟨p, ys, rfl, hq, hr⟩ := lstE_ok S hv e2
        have := blsOf_rel e3 hr
        subst this
        exact ⟨p, bs, rfl, hq, q r0 H _ (Up.refl r0 H) S rel_bl'⟩
  · cases e'
/-! sorted -/
def pcW : V → Option Pc
  | .int i => some (.inl i)
  | .str s => some (.inr s)
  | _ => none
def pcsW : List V → List Pc
  | [] => []
  | v :: vs => ((pcW v).map fun p => p :: pcsW vs).getD []
/-- the pieces of the tuple at an address -/
def kH (H : Hp) (v : V) : List Pc := match v with
  | .ref a => (match H a with
    | some (.tup vs) => pcsW vs
    | _ => [])
  | _ => []
theorem pcsOf_rel {K : Frag} {r : List Addr} {H : Hp} : ∀ {ds : List D} {vs : List V} {ps : List Pc}, pcsOf ds = some ps → RelL K r H ds vs → vs = ps.map pcV ∧ pcsW vs = ps
  | [], vs, ps, e, h => by cases e; rw [h.unnil]; exact ⟨rfl, rfl⟩
  | d :: ds, vs, ps, e, h => by
    obtain ⟨v, ws, rfl, h1, h2⟩ := h.uncons
    unfold pcsOf at e
    cases e1 : pcOf d with
    | none => rw [e1] at e; cases e
    | some p =>
      cases e2 : pcsOf ds with
      | none => rw [e1, e2] at e; cases e
      | some l =>
        rw [e1, e2] at e
        cases e
        obtain ⟨h3, h4⟩ := pcsOf_rel e2 h2
        have hv : v = pcV p ∧ pcW v = some p := by
          cases d <;> first | (cases e1; done) | (cases e1; unfold Rel at h1; subst h1; exact ⟨rfl, rfl⟩)
        rw [hv.1, h3]
        refine ⟨rfl, ?_⟩
        rw [← h3, ← hv.1]
        unfold pcsW
        rw [hv.2, h4]; rfl
theorem sort_rel {K : Frag} {r : List Addr} {H : Hp} {lt : D → D → Bool} {lt2 : V → V → Bool} {ds : List D} {vs : List V} (h : RelL K r H ds vs) (hc : ∀ p ∈ ds.zip vs, ∀ q ∈ ds.zip vs, lt q.1 p.1 = lt2 q.2 p.2) : RelL K r H (sortBy lt ds) (sortBy lt2 vs) := by
  have hl := h.length
  have e1 : (ds.zip vs).map Prod.fst = ds := List.map_fst_zip (Nat.le_of_eq hl)
  have e2 : (ds.zip vs).map Prod.snd = vs := List.map_snd_zip (Nat.le_of_eq hl.symm)
  have s1 := sort_map (lt := fun (p q : D × V) => lt p.1 q.1) (lt2 := lt) (f := Prod.fst) (l := ds.zip vs) fun _ _ _ _ => rfl
  have s2 := sort_map (lt := fun (p q : D × V) => lt p.1 q.1) (lt2 := lt2) (f := Prod.snd) (l := ds.zip vs) hc
  rw [e1] at s1
  rw [e2] at s2
  rw [← s1, ← s2]
  have all : ∀ p ∈ ds.zip vs, Rel K r H p.1 p.2 := by
    clear s1 s2 e1 e2 hc
    induction ds generalizing vs with
    | nil => intro p hp; simp at hp
    | cons d ds ih =>
      obtain ⟨v, ws, rfl, h1, h2⟩ := h.uncons
      intro p hp
      rcases List.mem_cons.mp hp with rfl | hp
      · exact h1
      · exact ih h2 h2.length p hp
  have all2 : ∀ p ∈ sortBy (fun (p q : D × V) => lt p.1 q.1) (ds.zip vs), Rel K r H p.1 p.2 := fun p hp => all p (sort_mem.mp hp)
  generalize sortBy (fun (p q : D × V) => lt p.1 q.1) (ds.zip vs) = l at all2
  clear s1 s2
  induction l with
  | nil => exact relL_nil
  | cons p l ih => exact relL_cons (all2 p (by simp)) (ih fun q hq => all2 q (by simp [hq]))
theorem zip_rel {K : Frag} {r : List Addr} {H : Hp} : ∀ {ds : List D} {vs : List V}, RelL K r H ds vs → ∀ p ∈ ds.zip vs, p.1 ∈ ds ∧ p.2 ∈ vs ∧ Rel K r H p.1 p.2
  | [], vs, h, p, hp => by simp at hp
  | d :: ds, vs, h, p, hp => by
    obtain ⟨v, ws, rfl, h1, h2⟩ := h.uncons
    rcases List.mem_cons.mp hp with rfl | hp
    · exact ⟨by simp, by simp, h1⟩
    · obtain ⟨a, b, c⟩ := zip_rel h2 p hp
      exact ⟨by simp [a], by simp [b], c⟩
theorem rel_zip {K : Frag} {r : List Addr} {H : Hp} : ∀ {ds : List D} {vs : List V}, RelL K r H ds vs → ∀ v ∈ vs, ∃ d ∈ ds, Rel K r H d v
  | [], vs, h, v, hv => by rw [h.unnil] at hv; simp at hv
  | d :: ds, vs, h, u, hu => by
    obtain ⟨v, ws, rfl, h1, h2⟩ := h.uncons
    rcases List.mem_cons.mp hu with rfl | hu
    · exact ⟨d, by simp, h1⟩
    · obtain ⟨e, a, b⟩ := rel_zip h2 u hu
      exact ⟨e, by simp [a], b⟩
theorem swoI : SrtO.Swo fun (i j : Int) => decide (i < j) := ⟨fun x y h => decide_eq_false (by have := of_decide_eq_true h; omega), fun x y z h1 h2 => decide_eq_false (by have := of_decide_eq_false h1; have := of_decide_eq_false h2; omega)⟩
theorem sort_ints {ns ns' : List Int} (h1 : ns'.Perm ns) (h2 : ns'.Pairwise (· ≤ ·)) : ns' = sortBy (fun (i j : Int) => decide (i < j)) ns := by
  refine sort_only swoI (h2.imp fun {a b} h => decide_eq_false (by omega)) ⟨h1, fun x => ?_⟩
  have e : SrtO.eqv (fun (i j : Int) => decide (i < j)) x = fun y => x == y := funext fun y => by
    unfold SrtO.eqv
    rw [Bool.eq_iff_iff]
    simp
    omega
  rw [e]
  have f : ∀ l : List Int, l.filter (fun y => x == y) = List.replicate (l.count x) x := fun l => by
    rw [← List.filter_eq]
    congr 1
    funext y
    rw [Bool.eq_iff_iff]
    simp only [beq_iff_eq, decide_eq_true_iff]
    exact ⟨fun h => h.symm, fun h => h.symm⟩
  rw [f, f, h1.count_eq]
theorem swoS : SrtO.Swo ltS := by
  have := swo_of fun (s : Str) => [(Sum.inr s : Pc)]
  have e : (fun (x y : Str) => ltPs [(Sum.inr x : Pc)] [Sum.inr y]) = ltS := funext fun x => funext fun y => by
    unfold ltPs
    by_cases h : x = y
    · subst h; rw [if_pos rfl, ltS_irr]; rfl
    · rw [if_neg (by simpa using h)]; rfl
  rw [e] at this
  exact this
theorem sort_strs {ns ns' : List Str} (h1 : ns'.Perm ns) (h2 : ns'.Pairwise fun a b => ltS b a = false) : ns' = sortBy ltS ns := by
  refine sort_only swoS h2 ⟨h1, fun x => ?_⟩
  have e : SrtO.eqv ltS x = fun y => decide (x = y) := funext fun y => by
    rw [Bool.eq_iff_iff, SrtO.eqv_iff, decide_eq_true_iff]
    exact ⟨fun ⟨a, b⟩ => ltS_tri a b, fun z => by subst z; exact ⟨ltS_irr x, ltS_irr x⟩⟩
  rw [e]
  have f : ∀ l : List Str, l.filter (fun y => decide (x = y)) = List.replicate (l.count x) x := fun l => by
    rw [← List.filter_eq]
    congr 1
    funext y
    rw [Bool.eq_iff_iff, decide_eq_true_iff, decide_eq_true_iff]
    exact ⟨fun h => h.symm, fun h => h.symm⟩
  rw [f, f, h1.count_eq]
theorem all_ints : ∀ {ds : List D}, (ds.all fun d => match d with | .int _ => true | _ => false) = true → ∃ ns : List Int, ds = ns.map D.int
  | [], _ => ⟨[], rfl⟩
  | d :: ds, h => by
    obtain ⟨h1, h2⟩ := all_cons h
    obtain ⟨ns, rfl⟩ := all_ints h2
    cases d with
    | int i => exact ⟨i :: ns, rfl⟩
    | _ => cases h1
theorem all_strs : ∀ {ds : List D}, (ds.all fun d => match d with | .str _ => true | _ => false) = true → ∃ ns : List Str, ds = ns.map D.str
  | [], _ => ⟨[], rfl⟩
  | d :: ds, h => by
    obtain ⟨h1, h2⟩ := all_cons h
    obtain ⟨ns, rfl⟩ := all_strs h2
    cases d with
    | str i => exact ⟨i :: ns, rfl⟩
    | _ => cases h1
theorem strs_rel {K : Frag} {r : List Addr} {H : Hp} : ∀ {ns : List Str} {ys : List V}, RelL K r H (ns.map D.str) ys → ys = ns.map V.str
  | [], ys, h => h.unnil
  | i :: ns, ys, h => by
    obtain ⟨u, us, rfl, h1, h2⟩ := RelL.uncons (ds := ns.map D.str) (d := D.str i) h
    unfold Rel at h1
    rw [h1, strs_rel h2]; rfl
theorem rising_pw : ∀ {l : List Str} {p : Str}, PyProof.Rows.risingS p l = true → (p :: l).Pairwise fun a b => ltS b a = false
  | [], p, _ => List.pairwise_singleton _ _
  | x :: l, p, h => by
    unfold PyProof.Rows.risingS at h
    obtain ⟨h1, h2⟩ := Bool.and_eq_true_iff.mp h
    have ih := rising_pw h2
    have e : ltS x p = false := by
      show decide (x.cps.toList < p.cps.toList) = false
      rw [PyProof.Rows.lt_meets]
      simpa using h1
    refine List.pairwise_cons.mpr ⟨fun y hy => ?_, ih⟩
    rcases List.mem_cons.mp hy with rfl | hy
    · exact e
    · exact swoS.tr p x y e ((List.pairwise_cons.mp ih).1 y hy)
theorem sortedS_pw : ∀ {l : List Str}, PyProof.Rows.sortedS l = true → l.Pairwise fun a b => ltS b a = false
  | [], _ => List.Pairwise.nil
  | x :: l, h => rising_pw h
theorem bi_sorted : BiP X .sorted (fun vs H Q => (rSortedI X.K vs H Q ∨ rSortedS X.K vs H Q) ∨ rSortedG X.K vs H Q) := fun {r0 st H0 H xs vs z Q} S hx e q => by
  have e' : bSorted xs st = some z := e
  unfold bSorted at e'
  split at e'
  · rename_i x
    cases e2 : lstE st x with
    | none => rw [e2] at e'; cases e'
    | some ds =>
      rw [e2] at e'
      simp only [Option.bind_some] at e'
      split at e'
      · rename_i hok
        cases e'
        obtain ⟨v, rfl, hv⟩ := one_of hx
        obtain ⟨p, ys, rfl, hq, hr⟩ := lstE_ok S hv e2
        have fin : ∀ ys', RelL X.K r0 H (sortBy ltSrt ds) ys' → ∀ l, H l = none → Q (.ref l) (upd H l (.lst ys')) := fun ys' h l hl => q r0 _ _ (Up.new hl) (S.new hl) ⟨l, ys', rfl, hl, S.off hl, upd_same, (Up.new (r := r0) hl).relL h⟩
        unfold srtOk at hok
        rcases Bool.or_eq_true_iff.mp hok with hok | hok
        · -- whole numbers
          have hns := all_ints hok
          obtain ⟨ns, rfl⟩ := hns
          have ei : ∀ l : List Int, intsOf (l.map D.int) = some l := fun l => by
            induction l with
            | nil => rfl
            | cons i l ih => show (intsOf (l.map D.int)).map (i :: ·) = _; rw [ih]; rfl
          have ey := intsOf_rel (ei ns) hr
          subst ey
          refine .inl (.inl ⟨p, ns, rfl, hq, fun ns' l h1 h2 hl => fin _ ?_ l hl⟩)
          rw [sort_ints h1 h2]
          have := sort_map (lt := fun (i j : Int) => decide (i < j)) (lt2 := ltSrt) (f := D.int) (l := ns) fun a _ b _ => by
            show decide (b < a) = ltPs [Sum.inl b] [Sum.inl a]
            unfold ltPs
            by_cases h : b = a
            · subst h; rw [if_pos rfl]; exact decide_eq_false (Int.lt_irrefl _)
            · rw [if_neg (by simpa using h)]; rfl
          rw [← this]
          generalize sortBy (fun (i j : Int) => decide (i < j)) ns = l2
          clear this h1 h2
          induction l2 with
          | nil => exact relL_nil
          | cons i l2 ih => exact relL_cons (by unfold Rel; rfl) ih
        · rcases Bool.or_eq_true_iff.mp hok with hok | hok
          · -- texts
            obtain ⟨hlen, hok⟩ := Bool.and_eq_true_iff.mp hok
            have hlen := of_decide_eq_true hlen
            have hns := all_strs hok
            obtain ⟨ns, rfl⟩ := hns
            have ey := strs_rel hr
            subst ey
            refine .inl (.inr ⟨p, ns, rfl, hq, by simpa using hlen, fun ns' l h1 h2 hl => fin _ ?_ l hl⟩)
            rw [sort_strs h1 (sortedS_pw h2)]
            have := sort_map (lt := ltS) (lt2 := ltSrt) (f := D.str) (l := ns) fun a _ b _ => by
              show ltS b a = ltPs [Sum.inr b] [Sum.inr a]
              unfold ltPs
              by_cases h : b = a
              · subst h; rw [if_pos rfl, ltS_irr]; rfl
              · rw [if_neg (by simpa using h)]; rfl
            rw [← this]
            generalize sortBy ltS ns = l2
            clear this h1 h2
            induction l2 with
            | nil => exact relL_nil
            | cons i l2 ih => exact relL_cons (by unfold Rel; rfl) ih
          · -- tuples
            have tups : ∃ bs, ∀ d ∈ ds, tupSh d = some (false :: bs) := by
              cases ds with
              | nil => exact ⟨[], by simp⟩
              | cons d r =>
                simp only at hok
                split at hok
                · rename_i bs e1
                  refine ⟨bs, fun y hy => ?_⟩
                  rcases List.mem_cons.mp hy with rfl | hy
                  · exact e1
                  · exact of_decide_eq_true (List.all_eq_true.mp hok y hy)
                · cases hok
            obtain ⟨bs, hbs⟩ := tups
            have each : ∀ d ∈ ds, ∀ v, Rel X.K r0 H d v → ∃ t ps, v = .ref t ∧ H t = some (.tup (ps.map pcV)) ∧ kH H v = ps ∧ srtKey d = ps ∧ ps.map pcSh = false :: bs := fun d hd v h => by
              have h1 := hbs d hd
              cases d with
              | tup es =>
                have h1' : (pcsOf es).map (·.map pcSh) = some (false :: bs) := h1
                cases e3 : pcsOf es with
                | none => rw [e3] at h1'; cases h1'
                | some ps =>
                  rw [e3] at h1'
                  unfold Rel at h
                  obtain ⟨t, xs, rfl, h2, h3⟩ := h
                  obtain ⟨h4, h5⟩ := pcsOf_rel e3 h3
                  refine ⟨t, ps, rfl, by rw [h2, h4], ?_, ?_, Option.some.inj h1'⟩
                  · unfold kH; simp only [h2]; exact h5
                  · show (pcsOf es).getD [] = ps
                    rw [e3]; rfl
              | _ => cases h1
            refine .inr ⟨p, ys, kH H, bs, rfl, hq, fun y hy => ?_, fun y hy => ?_, fun l hl => fin _ ?_ l hl⟩
            · obtain ⟨d, hd, h⟩ := rel_zip hr y hy
              obtain ⟨t, ps, h1, h2, h3, _⟩ := each d hd y h
              exact ⟨t, h1, by rw [h3]; exact h2⟩
            · obtain ⟨d, hd, h⟩ := rel_zip hr y hy
              obtain ⟨t, ps, h1, h2, h3, _, h5⟩ := each d hd y h
              rw [h3]; exact h5
            · refine sort_rel hr fun a ha b hb => ?_
              obtain ⟨a1, a2, a3⟩ := zip_rel hr a ha
              obtain ⟨b1, b2, b3⟩ := zip_rel hr b hb
              obtain ⟨_, _, _, _, p3, p4, _⟩ := each _ a1 _ a3
              obtain ⟨_, _, _, _, q3, q4, _⟩ := each _ b1 _ b3
              show ltPs (srtKey b.1) (srtKey a.1) = ltPs (kH H b.2) (kH H a.2)
              rw [p3, p4, q3, q4]
      · cases e'
  · cases e'
theorem bi_max : BiP X .max (fun xs H Q => (∃ i j, xs = [.int i, .int j] ∧ Q (.int (if j > i then j else i)) H) ∨ rMax X.K xs H Q) := fun {r0 st H0 H xs vs z Q} S hx e q => by
  have e' : bMax xs st = some z := e
  unfold bMax at e'
  split at e'
  · cases e'
    obtain ⟨v, w, rfl, hv, hw⟩ := two_of hx
    rw [rel_int hv, rel_int hw]
    exact .inl ⟨_, _, rfl, q r0 H _ (Up.refl r0 H) S rel_int'⟩
  · rename_i x
    cases e2 : lstE st x with
    | none => rw [e2] at e'; cases e'
    | some ds =>
      rw [e2] at e'
      cases e3 : intsOf ds with
      | none => simp only [Option.bind_some, e3] at e'; cases e'
      | some ns =>
        simp only [Option.bind_some, e3] at e'
        cases ns with
        | nil => cases e'
        | cons i ns =>
          cases e'
          obtain ⟨v, rfl, hv⟩ := one_of hx
          obtain ⟨p, ys, rfl, hq, hr⟩ := lstE_ok S hv e2
          have := intsOf_rel e3 hr
          subst this
          refine .inr ⟨p, i :: ns, rfl, hq, by simp, fun m h1 h2 => ?_⟩
          obtain ⟨f1, f2, f3⟩ := foldMax ns i
          have em : m = ns.foldl max i := by
            have a := h2 _ f1
            have b : m ≤ ns.foldl max i := by
              rcases List.mem_cons.mp h1 with rfl | h1
              · exact f2
              · exact f3 m h1
            omega
          rw [em]
          exact q r0 H _ (Up.refl r0 H) S rel_int'
  · cases e'
theorem bi_min : BiP X .min (fun xs H Q => ∃ i j, xs = [.int i, .int j] ∧ Q (.int (if j < i then j else i)) H) := fun {r0 st H0 H xs vs z Q} S hx e q => by
  have e' : bMin xs = some z := e
  unfold bMin at e'
  split at e' <;> cases e'
  obtain ⟨v, w, rfl, hv, hw⟩ := two_of hx
  rw [rel_int hv, rel_int hw]
  exact ⟨_, _, rfl, q r0 H _ (Up.refl r0 H) S rel_int'⟩
theorem bi_divmod : BiP X .divmod (fun xs H Q => ∃ i j, xs = [.int i, .int j] ∧ CDiv i j ∧ ∀ p, H p = none → Q (.ref p) (upd H p (.tup [.int (i / j), .int (i % j)]))) := fun {r0 st H0 H xs vs z Q} S hx e q => by
  have e' : bDm xs = some z := e
  unfold bDm at e'
  split at e'
  · split at e' <;> cases e'
    rename_i hl
    obtain ⟨v, w, rfl, hv, hw⟩ := two_of hx
    rw [rel_int hv, rel_int hw]
    refine ⟨_, _, rfl, hl, fun p hp => q r0 _ _ (Up.new hp) (S.new hp) (rel_tup (relL_cons ?_ (relL_cons ?_ relL_nil)) upd_same)⟩ <;> (unfold Rel; rfl)
  · cases e'
theorem bi_list : BiP X .list (fun xs H Q => (∃ p ys, xs = [.ref p] ∧ (SqL X.K H p ys ∨ SqT X.K H p ys) ∧ ∀ l, H l = none → Q (.ref l) (upd H l (.lst ys))) ∨
    ∃ (a : Addr) (kvs : List (L2.Key × V)), xs = [.ref a] ∧ Rd H a (.dK kvs) ∧ ∀ p, H p = none → Q (.ref p) (upd H p (.lst (kvs.map fun kv => kV kv.1)))) := fun {r0 st H0 H xs vs z Q} S hx e q => by
  have e' : bList xs st = some z := e
  unfold bList at e'
  split at e'
  · rename_i x
    split at e'
    · rename_i kvs e2
      cases e'
      obtain ⟨v, rfl, hv⟩ := one_of hx
      obtain ⟨a, kw, rfl, hk, hr⟩ := dicE_ok S hv e2
      exact .inr ⟨a, kw, rfl, hk, fun l hl => q r0 _ _ (Up.new hl) (S.new hl) ⟨l, _, rfl, hl, S.off hl, upd_same, (Up.new (r := r0) hl).relL (relK_keys hr)⟩⟩
    · cases e2 : items st x with
      | none => rw [e2] at e'; cases e'
      | some ds =>
        rw [e2] at e'; cases e'
        obtain ⟨v, rfl, hv⟩ := one_of hx
        obtain ⟨p, ys, rfl, hq, hr⟩ := items_ok S hv e2
        exact .inl ⟨p, ys, rfl, hq, fun l hl => q r0 _ _ (Up.new hl) (S.new hl) ⟨l, ys, rfl, hl, S.off hl, upd_same, (Up.new (r := r0) hl).relL hr⟩⟩
  · cases e'
theorem callR_never {f : Value} : CallR X f (fun _ _ _ => False) := fun _ _ _ _ _ _ _ _ _ h => h.elim
theorem s_biB {bb : BI} {x : Str} {id : String} {rr : List V → Hp → VK → Prop} (hc : CallR X (.builtin id) rr) (hb : BiP X bb rr) (hg : Gl X x) (hm : X.mg x = none) (hv : bootBuiltins x = some (.builtin id)) (hn : x ≠ "__name__") (hd : (x == ("__debug__" : Str)) = false)
    (hs : es.any isStar = false) (ha : PA X es (RA P go X W es')) (h0 : es = [] → es' = .nil) (hz : ∀ st, biD bb [] st = none) : PE X (.Call (.Name x p) es [] pos) (RE P go X W (.bi bb es')) := by
  cases es with
  | nil =>
    refine PE.never fun σ H Q ⟨r, env, st, he, S, h⟩ => ?_
    rw [h0 rfl] at h
    unfold evE evEs at h
    simp only [R.bind] at h
    rw [hz] at h
    exact h
  | cons e es =>
    have h1 : isStar e = false ∧ es.any isStar = false := by simpa using hs
    refine (pe_callB hc hg hm hv ha hn hd (star_cons h1.1) (star_any h1.2)).weak fun σ H Q ⟨r, env, st, he, S, h⟩ => ?_
    unfold evE at h
    refine rda_of he S h.bind fun xs st1 r1 H1 vs u1 S1 hx e1 h1 => ?_
    obtain ⟨z, hz, q⟩ := h1.of
    exact hb S1 hx hz fun r' H' v u S' hv => q r' H' u S' v (hv.older u1.dom)
theorem s_biT {bb : BI} {x : Str} {T : String} {rr : List V → Hp → VK → Prop} (hc : CallR X (.type T) rr) (hb : BiP X bb rr) (hg : Gl X x) (hm : X.mg x = none) (hv : bootBuiltins x = some (.type T)) (hn : x ≠ "__name__") (hd : (x == ("__debug__" : Str)) = false)
    (hs : es.any isStar = false) (ha : PA X es (RA P go X W es')) (h0 : es = [] → es' = .nil) (hz : ∀ st, biD bb [] st = none) : PE X (.Call (.Name x p) es [] pos) (RE P go X W (.bi bb es')) := by
  cases es with
  | nil =>
    refine PE.never fun σ H Q ⟨r, env, st, he, S, h⟩ => ?_
    rw [h0 rfl] at h
    unfold evE evEs at h
    simp only [R.bind] at h
    rw [hz] at h
    exact h
  | cons e es =>
    have h1 : isStar e = false ∧ es.any isStar = false := by simpa using hs
    refine (pe_callTy hc hg hm hv ha hn hd (star_cons h1.1) (star_any h1.2)).weak fun σ H Q ⟨r, env, st, he, S, h⟩ => ?_
    unfold evE at h
    refine rda_of he S h.bind fun xs st1 r1 H1 vs u1 S1 hx e1 h1 => ?_
    obtain ⟨z, hz, q⟩ := h1.of
    exact hb S1 hx hz fun r' H' v u S' hv => q r' H' u S' v (hv.older u1.dom)
theorem biP_never {bb : BI} (h : ∀ xs st, biD bb xs st = none) : BiP X bb (fun _ _ _ => False) := fun {r0 st H0 H xs vs z Q} S hx e q => by rw [h] at e; cases e
theorem bi_of {x : Str} {bb : BI} (h : biOf x = some bb) : (x = "len" ∧ bb = .len) ∨ (x = "int" ∧ bb = .int) ∨ (x = "str" ∧ bb = .str) ∨ (x = "divmod" ∧ bb = .divmod) ∨ (x = "max" ∧ bb = .max) ∨ (x = "min" ∧ bb = .min) ∨ (x = "list" ∧ bb = .list) ∨ (x = "tuple" ∧ bb = .tuple) ∨ (x = "sorted" ∧ bb = .sorted) ∨ (x = "all" ∧ bb = .all) := by
  unfold biOf at h
  repeat (split at h; (rename_i e; cases h; subst e; simp))
  cases h
theorem s_bi (G : Good P go k X sc W) {x : Str} {bb : BI} (hbx : biOf x = some bb) (hg : Gl X x) (hs : es.any isStar = false) (ha : PA X es (RA P go X W es')) (h0 : es = [] → es' = .nil) : PE X (.Call (.Name x p) es [] pos) (RE P go X W (.bi bb es')) := by
  have hm : X.mg x = none := G.tab.bi x (by rcases bi_of hbx with ⟨rfl, _⟩ | ⟨rfl, _⟩ | ⟨rfl, _⟩ | ⟨rfl, _⟩ | ⟨rfl, _⟩ | ⟨rfl, _⟩ | ⟨rfl, _⟩ | ⟨rfl, _⟩ | ⟨rfl, _⟩ | ⟨rfl, _⟩ <;> simp [bNames])
  rcases bi_of hbx with ⟨rfl, rfl⟩ | ⟨rfl, rfl⟩ | ⟨rfl, rfl⟩ | ⟨rfl, rfl⟩ | ⟨rfl, rfl⟩ | ⟨rfl, rfl⟩ | ⟨rfl, rfl⟩ | ⟨rfl, rfl⟩ | ⟨rfl, rfl⟩ | ⟨rfl, rfl⟩
  · exact s_biB (call_len.or call_lenR) bi_len hg hm PySem.boot_len (by decide +kernel) (by decide +kernel) hs ha h0 fun _ => rfl
  · exact s_biT (call_int1.or call_int_str) bi_int hg hm (by decide +kernel) (by decide +kernel) (by decide +kernel) hs ha h0 fun _ => rfl
  · exact s_biT (call_str_int.or SkE.call_str_str) bi_str hg hm (by decide +kernel) (by decide +kernel) (by decide +kernel) hs ha h0 fun _ => rfl
  · exact s_biB call_divmod bi_divmod hg hm (by decide +kernel) (by decide +kernel) (by decide +kernel) hs ha h0 fun _ => rfl
  · exact s_biB ((call_max2 G.calm).or (cr_max G.calm)) bi_max hg hm (by decide +kernel) (by decide +kernel) (by decide +kernel) hs ha h0 fun _ => rfl
  · exact s_biB (call_min2 G.calm) bi_min hg hm (by decide +kernel) (by decide +kernel) (by decide +kernel) hs ha h0 fun _ => rfl
  · exact s_biT (call_list_of.or (call_listD G.calm)) bi_list hg hm (by decide +kernel) (by decide +kernel) (by decide +kernel) hs ha h0 fun _ => rfl
  · exact s_biT call_tuple_of bi_tuple hg hm (by decide +kernel) (by decide +kernel) (by decide +kernel) hs ha h0 fun _ => rfl
  · exact s_biB ((cr_sortedI.or cr_sortedS).or cr_sortedG) bi_sorted hg hm (by decide +kernel) (by decide +kernel) (by decide +kernel) hs ha h0 fun _ => rfl
  · exact s_biB (cr_all G.calm) bi_all hg hm (by decide +kernel) (by decide +kernel) (by decide +kernel) hs ha h0 fun _ => rfl
/-- list(reversed(x)) -/
theorem s_rev (G : Good P go k X sc W) {p2 pos2 : Pos} (hg : Gl X "list") (hg2 : Gl X "reversed") (ha : PE X a (RE P go X W a')) (hs : isStar a = false) : PE X (.Call (.Name "list" p) [.Call (.Name "reversed" p2) [a] [] pos2] [] pos) (RE P go X W (.bi .rev (.cons a' .nil))) := by
  refine (pe_listRev G.calm hg (G.tab.bi _ (by simp [bNames])) hg2 (G.tab.bi _ (by simp [bNames])) ha hs).weak fun σ H Q ⟨r, env, st, he, S, h⟩ => ?_
  unfold evE evEs at h
  refine rd_of he S h.bind.bind fun x st1 r1 H1 v u1 S1 hx h1 => ?_
  have h2 : PostR X.K X.mg r1 H1 (R.of (biD .rev [x] st1) st1) (OkE X.K H Q) (Wat W σ) := by
    have h1' := h1
    unfold evEs at h1'
    exact post_ok (x := [x]) (st := st1) h1' S1
  obtain ⟨z, e1, q⟩ := h2.of
  have e1' : (lstE st1 x).map (fun ds => Ev.t ds.reverse) = some z := e1
  cases e2 : lstE st1 x with
  | none => rw [e2] at e1'; cases e1'
  | some ds =>
    rw [e2] at e1'
    cases e1'
    obtain ⟨b, xs, rfl, hq, hr⟩ := lstE_ok S1 hx e2
    refine ⟨b, xs, rfl, hq, fun l hl => ?_⟩
    have n2 := Up.new (r := r1) (o := .lst xs.reverse) hl
    exact q r1 _ n2 (S1.new hl) _ ⟨l, _, rfl, u1.dom l hl, S1.off hl, upd_same, n2.relL hr.rev⟩
/-! ### dicts made -/
theorem up_snoc {K : Frag} {mg : Str → Option Value} {r0 r : List Addr} {H0 H : Hp} {p : Addr} {o : HO} {c : Cell} {st : Store} (U : Up r0 H0 r H) (S : Sim K mg r st H) (hp : H p = none) (hc : CellR K mg r (upd H p o) c p) :
    Up r0 H0 (r ++ [p]) (upd H p o) ∧ Sim K mg (r ++ [p]) (st ++ [c]) (upd H p o) ∧ Rel K (r ++ [p]) (upd H p o) (.ref st.length) (.ref p) := by
  have n1 := Up.new (r := r) (o := o) hp
  have u := U.trans n1
  refine ⟨⟨u.pre.trans (Ext.snoc r p), u.keep, fun n b z1 z2 => ?_, u.dom⟩, (S.new hp).snoc (S.off hp) hc, ?_⟩
  · by_cases hn : n < r.length
    · rw [List.getElem?_append_left hn] at z2; exact u.fresh n b z1 z2
    · rw [List.getElem?_append_right (by omega)] at z2
      cases qq : n - r.length with
      | zero => rw [qq] at z2; simp at z2; subst z2; exact U.dom _ hp
      | succ m => rw [qq] at z2; simp at z2
  · unfold Rel
    exact ⟨p, by rw [← S.len]; simp, rfl⟩
theorem s_dnew : PE X (.Dict [] [] pos) (RE P go X W (.dct .nil .nil)) := pe_dnewK.weak fun σ H Q ⟨r, env, st, he, S, h⟩ p hp => by
  unfold evE at h
  obtain ⟨U, S2, R2⟩ := up_snoc (o := .dK []) (c := .dic false []) (Up.refl r H) S hp ⟨[], upd_same, rfl⟩
  exact h _ _ U S2 _ R2
theorem s_dlit {k : Str} {i : Int} {j1 j2 : Nat} {p1 p2 : Pos} : PE X (.Dict [some (.Constant (.str k) j1 p1)] [.Constant (.int i) j2 p2] pos) (RE P go X W (.dct (.cons (.str k) .nil) (.cons (.int i) .nil))) := by
  refine (pe_disp (pps_cons pe_str pe_int pps_nil) (by rfl) (by rfl) (fun z => by cases z) (by show 1 ≤ 15; omega)).weak fun σ H Q ⟨r, env, st, he, S, h⟩ p hp => ?_
  unfold evE at h
  refine ⟨upd_same, [(.inr k, .int i)], rfl, by show 1 ≤ 15; omega, ?_⟩
  obtain ⟨U, S2, R2⟩ := up_snoc (o := .dK (mergeK [] [(.inr k, .int i)])) (c := .dic false [(.inr k, .int i)]) (Up.refl r H) S hp ⟨_, upd_same, .int i, [], rfl, by unfold Rel; rfl, rfl⟩
  have e : upd (upd H p (.dK [])) p (.dK (mergeK [] [((.inr k : L2.Key), V.int i)])) = upd H p (.dK (mergeK [] [(.inr k, .int i)])) := by
    funext b
    by_cases hb : b = p
    · subst hb; rw [upd_same, upd_same]
    · rw [upd_ne hb, upd_ne hb, upd_ne hb]
  rw [e]
  exact h _ _ U S2 _ R2
theorem s_dcp (G : Good P go k X sc W) (hg : Gl X "dict") (ha : PE X a (RE P go X W a')) (hs : isStar a = false) : PE X (.Call (.Name "dict" p) [a] [] pos) (RE P go X W (.dcp a')) := by
  refine (pe_callTy call_dictD hg (G.tab.bi _ (by simp [bNames])) (by decide +kernel) (pa_cons ha pa_nil (star_cons hs)) (by decide +kernel) (by decide +kernel) (star_cons hs) (star_any rfl)).weak fun σ H Q ⟨r, env, st, he, S, h⟩ => ?_
  unfold evE at h
  refine rd_of he S h.bind fun x st1 r1 H1 v u1 S1 hx h1 => ?_
  split at h1
  · rename_i kvs e2
    obtain ⟨b, kw, rfl, hk, hr⟩ := dicE_ok S1 hx e2
    refine ⟨b, kw, rfl, hk, fun l hl => ?_⟩
    obtain ⟨U, S2, R2⟩ := up_snoc (o := .dK kw) (c := .dic false kvs) (Up.refl r1 H1) S1 hl ⟨kw, upd_same, hr.mono (Ext.refl r1) (tups_new hl)⟩
    exact h1 _ _ U S2 _ R2
  · exact h1.elim
end
end SI

set_option maxHeartbeats 2000000
/-! SI 9: calls of the text's own defs, methods, classes. -/
namespace SI
open PySem L2 PySem.Spec PyProof.Rows
section
variable {P : Prog} {go : Go} {k : Nat} {X : Cx} {sc : Scope} {W : WX} {a b c e o : Expr} {a' b' c' e' o' : E} {es : List Expr} {es' : Es} {pos p apos : Pos}
theorem takes_ok {f : Fn} {n : Nat} (h : f.takes n = true) : n ≤ f.np ∧ f.np ≤ n + f.dfl.length := by
  unfold Fn.takes at h
  simpa using h
theorem full_ok {f : Fn} {ds : List D} (h : f.takes ds.length = true) : (f.full ds).length = f.np := by
  obtain ⟨h1, h2⟩ := takes_ok h
  unfold Fn.full
  simp
  omega
theorem mats_len : ∀ {xs : List Ev} {st : Store}, (mats xs st).1.length = xs.length
  | [], st => rfl
  | x :: xs, st => by
    show (mats xs (mat x st).2).1.length + 1 = xs.length + 1
    rw [mats_len]
theorem s_call (G : Good P go k X sc W) {x : Str} (hg : Gl X x) (hs : es.any isStar = false) (ha : PA X es (RA P go X W es')) (h0 : es ≠ []) (hl : esLen es' = es.length) : PE X (.Call (.Name x p) es [] pos) (RE P go X W (.call x es')) := by
  cases q : P.fns.lookup (x, none) with
  | none =>
    refine PE.never fun σ H Q ⟨r, env, st, he, S, h⟩ => ?_
    unfold evE at h
    rw [q] at h
    exact h
  | some f =>
    cases t : f.takes (esLen es') with
    | false =>
      refine PE.never fun σ H Q ⟨r, env, st, he, S, h⟩ => ?_
      unfold evE at h
      rw [q] at h
      simp only [t] at h
      exact h
    | true =>
      obtain ⟨fa, fd, ps, F, hm, hk, ⟨hp, hB⟩, hd⟩ := G.tab.fn x f q
      obtain ⟨t1, t2⟩ := takes_ok t
      obtain ⟨dvs, ds, d1, d2, d3⟩ := hB (esLen es') t1 t2
      cases es with
      | nil => exact absurd rfl h0
      | cons e es =>
        have h1 : isStar e = false ∧ es.any isStar = false := by simpa using hs
        refine (pe_callSD F (G.room.mono (Nat.le_succ _)) hg hm hk d2 d1 (fun σ => passAt G.tk σ) ha hd (star_cons h1.1) (star_any h1.2)).weak fun σ H Q ⟨r, env, st, he, S, h⟩ => ?_
        unfold evE at h
        rw [q] at h
        simp only [t] at h
        refine rda_of he S (PostR.bind0 h) fun xs st1 r1 H1 vs u1 S1 hx e1 h1 => ?_
        obtain ⟨r2, U2, _, S2, R2⟩ := mats_ok u1 S1 hx
        have el := evEs_len e1
        refine ⟨r2, f.full (mats xs st1).1, (mats xs st1).2, ?_, full_ok (by rw [mats_len, el]; exact t), S2, (h1.up U2).mono fun _ _ _ _ _ _ _ z => ok_older U2.dom z⟩
        unfold Fn.full
        rw [mats_len, el]
        exact R2.append (d3 r2 H1)
/-- what a value's method asks -/
def rMeth (K : Frag) (pr : Program) (w : World) (mg : Str → Option Value) (base : Heap) (k : Nat) (m : Str) (E : XK) (ta : TA) (σ : L2.St) (x : V) (H : Hp) (Q : VK) : Prop :=
  ∃ (a C dx : Addr) (fs : List (Str × V)) (f : Addr) (fd : FuncData) (ps : List Str) (sp : Sp) (dvs : List V) (ds : List Value), x = .ref a ∧ H a = some (.ins C dx fs) ∧ Cls K C ∧ Meth K C m f ∧ fs.lookup m = none ∧
    FnOk pr w K mg base (CX pr w) k f fd ps sp ∧ Binds K fd ps ds ∧ Vals dvs ds ∧ ta σ H fun vs H2 => sp (x :: (vs ++ dvs)) H2 Q E
theorem pe_methX {m : Str} {te : TE} {t : TA} {pl : Sem Bool} (hr : Room k X.A) (tk : Takes X W) (ho : PE X o te) (ha : PA X (e :: es) t) (hs : (e :: es).any isStar = false)
    (ev : eval (.Call (.Attribute o m apos) (e :: es) [] pos) X.env = (do
      let ov ← eval o X.env
      standAt apos.atName
      let (f, first) ← holding [ov] (getMethod ov m pl)
      callWith pos f first (backTo pos (starEach (e :: es) X.env)) (backToKw pos (keywordEach [] X.env)))) :
    PE X (.Call (.Attribute o m apos) (e :: es) [] pos) (fun σ H Q => te σ H fun x H1 => rMeth X.K X.prog X.w X.mg X.base k m (WE W σ) t σ x H1 Q) := by
  have h1 : isStar e = false ∧ es.any isStar = false := by simpa using hs
  constructor
  intro pins s σ H Q I h
  refine PySem.W.methodCall_KW (pl := pl) (thn (ho.run pins s σ H _ I h) ?_) ev
  rintro u s1 ⟨x, H1, I1, rx, pa, C, dx, fs, f, fd, ps, sp, dvs, ds, rfl, hi, cl, hm, hn, F, hb, hd, q⟩
  have hu : u = Value.ref pa := rx
  subst hu
  refine getmeth_ok I1 hi cl hm hn ?_
  refine PySem.W.callWith_K (first := [.ref pa]) (h₀ := X.base) I.ok.mod.kin hm.kp (thn (ha.run pos pins s1 σ H1 _ I1 q) ?_) (star_cons h1.1) (star_any h1.2)
  rintro us s2 ⟨vs, H2, I2, rv, q2⟩
  refine ⟨I2.kIn, ?_⟩
  exact run_fnSD (us := .ref pa :: us) (vs := .ref pa :: vs) F hr hb hd (passAt tk σ) I2 (.cons rx rv) q2
theorem pe_methX0 {m : Str} {te : TE} {pl : Sem Bool} (hr : Room k X.A) (tk : Takes X W) (ho : PE X o te)
    (ev : eval (.Call (.Attribute o m apos) [] [] pos) X.env = (do
      let ov ← eval o X.env
      standAt apos.atName
      let (f, first) ← holding [ov] (getMethod ov m pl)
      callWith pos f first (backTo pos (starEach [] X.env)) (backToKw pos (keywordEach [] X.env)))) :
    PE X (.Call (.Attribute o m apos) [] [] pos) (fun σ H Q => te σ H fun x H1 => rMeth X.K X.prog X.w X.mg X.base k m (WE W σ) tNil σ x H1 Q) := by
  constructor
  intro pins s σ H Q I h
  refine PySem.W.methodCall_KW (pl := pl) (thn (ho.run pins s σ H _ I h) ?_) ev
  rintro u s1 ⟨x, H1, I1, rx, pa, C, dx, fs, f, fd, ps, sp, dvs, ds, rfl, hi, cl, hm, hn, F, hb, hd, q⟩
  have hu : u = Value.ref pa := rx
  subst hu
  refine getmeth_ok I1 hi cl hm hn ?_
  exact PySem.W.callWith_K0 (first := [.ref pa]) I1.kIn hm.kp (run_fnSD (us := [.ref pa]) (vs := [.ref pa]) F hr hb hd (passAt tk σ) I1 (.cons rx .nil) q)
theorem star_all : ∀ {es : List Expr} {env : PySem.Env} {p : Pos}, es.any isStar = false → (backTo p (starEach es env)).all (fun x => !x.1) = true
  | [], env, p, h => rfl
  | e :: es, env, p, h => by
    have h1 : isStar e = false ∧ es.any isStar = false := by simpa using h
    rw [star_cons h1.1]
    show (true && (backTo p (starEach es env)).all (fun x => !x.1)) = true
    rw [star_all h1.2] <;> rfl
theorem few_ok {env : PySem.Env} (hs : es.any isStar = false) (hl : es.length < 20) : methodCallForm (es.length + ([] : List Keyword).length) (backTo pos (starEach es env)) (backToKw pos (keywordEach [] env)) = true := by
  unfold methodCallForm
  rw [star_all hs]
  have : decide (es.length + ([] : List Keyword).length + (if (backToKw pos (keywordEach [] env)).isEmpty = true then 0 else 1) < 30) = true := by
    apply decide_eq_true
    show es.length + 0 + (if true = true then 0 else 1) < 30
    simp
    omega
  rw [this] <;> rfl
theorem base_ok {m : Str} {env : PySem.Env} (hr : recvOk o = true) : attributeBase o m env (eval o env) = eval o env := by
  unfold recvOk at hr
  split at hr <;> first | rfl | (cases hr; done) | (rename_i f _ _ _ _; cases f <;> rfl)
theorem ev_meth {m : Str} {env : PySem.Env} (hr : recvOk o = true) (hs : es.any isStar = false) (hl : es.length < 20) (hp : (apos.endLine == pos.line) = true) : ∃ pl : Sem Bool, eval (.Call (.Attribute o m apos) es [] pos) env = (do
      let ov ← eval o env
      standAt apos.atName
      let (f, first) ← holding [ov] (getMethod ov m pl)
      callWith pos f first (backTo pos (starEach es env)) (backToKw pos (keywordEach [] env))) := by
  refine ⟨do return (← importBound o env).getD true, ?_⟩
  show (do
    let ov ← attributeBase o m env (eval o env)
    standAt apos.atName
    methodCall o m apos pos env ov (es.length + ([] : List Keyword).length) (backTo pos (starEach es env)) (backToKw pos (keywordEach [] env))) = _
  rw [base_ok hr]
  have e : ∀ ov, methodCall o m apos pos env ov (es.length + ([] : List Keyword).length) (backTo pos (starEach es env)) (backToKw pos (keywordEach [] env)) = (do
      let (f, first) ← holding [ov] (getMethod ov m (do return (← importBound o env).getD true))
      callWith pos f first (backTo pos (starEach es env)) (backToKw pos (keywordEach [] env))) := fun ov => by
    unfold methodCall
    rw [few_ok hs hl]
    have e2 : methodCallPos true o env apos pos = pure pos := by
      unfold methodCallPos
      rw [hp] <;> rfl
    rw [e2]
    simp only [pure_bind]
    rfl
  simp only [e]
theorem meth_post {r : List Addr} {H : Hp} {Q : VK} {σ : L2.St} {env : Env} {f : Fn} {st : Store} (he : EnvR X.K r H env σ) (S : Sim X.K X.mg r st H)
    (G : Good P go k X sc W) {m : Str} {n : Nat} {c : Str} {fs : List (Str × D)} {H0 : Hp} {v : V} {ta : TA} (hx : RelEv X.K r H0 H (.v (.ref n)) v) (e1 : st[n]? = some (.ins c fs)) (q : P.fns.lookup (c, some m) = some f) (ql : fs.lookup m = none) (t : f.takes (esLen es' + 1) = true)
    (hta : ∀ Q2 : List V → Hp → Prop, RA P go X W es' σ H Q2 → ta σ H Q2)
    (h : PostR X.K X.mg r H ((evEs P go es' env st).bind fun xs st2 => go f (f.full (.ref n :: (mats xs st2).1)) (mats xs st2).2) (OkE X.K H Q) (Wat W σ)) :
    rMeth X.K X.prog X.w X.mg X.base k m (WE W σ) ta σ v H Q := by
  unfold RelEv Rel at hx
  obtain ⟨pa, h2, rfl⟩ := hx
  obtain ⟨C, dx, fv, z1, z2, z3⟩ := S.ok n pa _ h2 e1
  obtain ⟨fa, fd, ps, F, hm, ⟨hp, hB⟩, cl⟩ := G.tab.mt c m f C q z1
  obtain ⟨t1, t2⟩ := takes_ok t
  obtain ⟨dvs, ds, d1, d2, d3⟩ := hB (esLen es' + 1) t1 t2
  refine ⟨pa, C, dx, fv, fa, fd, ps, _, dvs, ds, rfl, z2, cl, hm, (relF_get z3).2 ql, F, d2, d1, hta _ ?_⟩
  refine rda_of he S h.bind0 fun xs st1 r1 H1 vs u1 S1 hx e1 h1 => ?_
  obtain ⟨r2, U2, E2, S2, R2⟩ := mats_ok u1 S1 hx
  have el := evEs_len e1
  refine ⟨r2, f.full (.ref n :: (mats xs st1).1), (mats xs st1).2, ?_, full_ok (by simp only [List.length_cons, mats_len, el]; exact t), S2, (h1.up U2).mono fun _ _ _ _ _ _ _ z => ok_older U2.dom z⟩
  unfold Fn.full
  simp only [List.length_cons, mats_len, el]
  refine RelL.append (relL_cons (v := V.ref pa) (vs := vs) ?_ R2) (d3 r2 H1)
  unfold Rel
  exact ⟨pa, U2.pre n pa h2, rfl⟩
theorem s_meth (G : Good P go k X sc W) {m : Str} (ho : PE X o (RE P go X W o')) (hs : es.any isStar = false) (ha : PA X es (RA P go X W es')) (h0 : es = [] → es' = .nil) (hr : recvOk o = true) (hl : es.length < 20) (hp : (apos.endLine == pos.line) = true) : PE X (.Call (.Attribute o m apos) es [] pos) (RE P go X W (.meth o' m es')) := by
  have hw : ∀ (ta : TA), (∀ σ H Q2, RA P go X W es' σ H Q2 → ta σ H Q2) → ∀ σ H Q, RE P go X W (.meth o' m es') σ H Q → RE P go X W o' σ H fun x H1 => rMeth X.K X.prog X.w X.mg X.base k m (WE W σ) ta σ x H1 Q := by
    rintro ta hta σ H Q ⟨r, env, st, he, S, h⟩
    unfold evE at h
    refine rd_of he S h.bind fun x st1 r1 H1 v u1 S1 hx h1 => ?_
    split at h1
    · split at h1
      · rename_i c fs e1
        split at h1
        · rename_i fn q ql
          split at h1
          · rename_i t
            exact meth_post (he.up u1) S1 G hx e1 q ql t (fun Q2 h => hta _ _ Q2 h) (h1.mono fun _ _ _ _ _ _ _ z => ok_older u1.dom z)
          · exact h1.elim
        · exact h1.elim
      · exact h1.elim
    · exact h1.elim
  obtain ⟨pl, ev⟩ := ev_meth (m := m) (apos := apos) (es := es) (pos := pos) (env := X.env) hr hs hl hp
  cases es with
  | nil =>
    have e0 := h0 rfl
    subst e0
    refine PE.weak (pe_methX0 (k := k) (G.room.mono (Nat.le_succ _)) G.tk ho ev) (hw tNil ?_)
    rintro σ H Q2 ⟨r, env, st, he, S, h⟩
    unfold evEs at h
    exact post_ok h S _ rfl
  | cons e es => exact PE.weak (pe_methX (k := k) (G.room.mono (Nat.le_succ _)) G.tk ho ha hs ev) (hw _ fun σ H Q2 h => h)
end
end SI

set_option maxHeartbeats 2000000
/-! SI 10: instances made, isinstance, append. -/
namespace SI
open PySem L2 PySem.Spec PyProof.Rows
section
variable {P : Prog} {go : Go} {k : Nat} {X : Cx} {sc : Scope} {W : WX} {a b c e o : Expr} {a' b' c' e' o' : E} {es : List Expr} {es' : Es} {pos p apos : Pos}
/-- C(..) of an own class, what is raised wished for at the slots -/
def tMakeS (C : Addr) (sp : Sp) (dvs : List V) (E : L2.St → XK) (t : TA) : TE := fun σ H Q => t σ H fun vs H1 => ∀ x dx, H1 x = none → H1 dx = none → dx ≠ x →
  sp (.ref x :: (vs ++ dvs)) (upd (upd H1 dx (.own x)) x (.ins C dx [])) (fun v H2 => v = .non ∧ Q (.ref x) H2) (E σ)
theorem pe_makeS {x : Str} {C f : Addr} {fd : FuncData} {ps : List Str} {sp : Sp} {dvs : List V} {ds : List Value} {t : TA} (M : Mk X.K C f) (F : FnOk X.prog X.w X.K X.mg X.base (CX X.prog X.w) k f fd ps sp) (hr : Room (k + 1) X.A) (hg : Gl X x) (hm : X.mg x = some (.ref C))
    (hb : Binds X.K fd ps ds) (hd : Vals dvs ds) (tk : Takes X W) (ha : PA X (e :: es) t) (hdb : (x == ("__debug__" : Str)) = false) (hs : (e :: es).any isStar = false) : PE X (.Call (.Name x p) (e :: es) [] pos) (tMakeS C sp dvs (WE W) t) := by
  have h1 : isStar e = false ∧ es.any isStar = false := by simpa using hs
  constructor
  intro pins s σ H Q I h
  refine wpAny_Call_Name_kw (ld_glob I hg hm ?_ hdb)
  refine PySem.W.callWith_K (h₀ := X.base) I.ok.mod.kin M.kp (thn (ha.run pos pins s σ H _ I h) ?_) (star_cons h1.1) (star_any h1.2)
  rintro us s1 ⟨vs, H1, I1, r, q⟩
  refine ⟨I1.kIn, ?_⟩
  have hq := q (s1.heap.objs.size + 1) s1.heap.objs.size (I1.hok.fresh (Nat.le_succ _)) (I1.hok.fresh (Nat.le_refl _)) (Nat.ne_of_lt (Nat.lt_succ_self _))
  have I2 := Inv.made (C := C) I1
  have r2 : Vals (V.ref (s1.heap.objs.size + 1) :: (vs ++ dvs)) (Value.ref (s1.heap.objs.size + 1) :: (us ++ ds)) := Paired.cons rfl (r.append hd)
  have hl : (Value.ref (s1.heap.objs.size + 1) :: us ++ ds).length = ps.length := (r2.length.symm).trans (F.len _ _ _ _ hq)
  have run := F.run _ X.stack _ _ ⟨Value.ref (s1.heap.objs.size + 1) :: us, []⟩ _ _ _ (WE W σ) (hr.make C us []) (I2.env0.make C us []) (hb _ (Value.ref (s1.heap.objs.size + 1) :: us) I2.kIn hl) r2 hq
  refine wpAny_call (make_map (f := f) I1.kIn M.makes M.init (beq_iff_eq.mp M.fn) (codeAny_mono run fun rr s' hq' => ?_))
  match rr, hq' with
  | .error er, hq' => exact passAt tk σ pins _ _ er s' I2 hq'
  | .ok (.ret u), hq' =>
    obtain ⟨v, H', I3, rv, ev, q3⟩ := I2.after hq'
    subst ev
    exact ⟨rv, V.ref (s1.heap.objs.size + 1), H', I3, rfl, q3⟩
  | .ok .next, hq' => exact False.elim hq'
  | .ok .brk, hq' => exact False.elim hq'
  | .ok .cont, hq' => exact False.elim hq'
theorem s_mk (G : Good P go k X sc W) {x : Str} (hg : Gl X x) (hs : es.any isStar = false) (ha : PA X es (RA P go X W es')) (h0 : es ≠ []) : PE X (.Call (.Name x p) es [] pos) (RE P go X W (.mk x es')) := by
  cases q : P.fns.lookup (x, some nInit) with
  | none =>
    refine PE.never fun σ H Q ⟨r, env, st, he, S, h⟩ => ?_
    unfold evE at h
    rw [q] at h
    exact h
  | some f =>
    cases t : f.takes (esLen es' + 1) with
    | false =>
      refine PE.never fun σ H Q ⟨r, env, st, he, S, h⟩ => ?_
      unfold evE at h
      rw [q] at h
      simp only [t] at h
      exact h
    | true =>
      obtain ⟨C, hm, hdb, hmk⟩ := G.tab.mkr x f q
      obtain ⟨fa, fd, ps, F, hme, ⟨hp, hB⟩, cl⟩ := G.tab.mt x nInit f C q hm
      obtain ⟨t1, t2⟩ := takes_ok t
      obtain ⟨dvs, ds, d1, d2, d3⟩ := hB (esLen es' + 1) t1 t2
      cases es with
      | nil => exact absurd rfl h0
      | cons e es =>
        refine (pe_makeS (hmk fa hme) F G.room hg hm d2 d1 G.tk ha hdb hs).weak fun σ H Q ⟨r, env, st, he, S, h⟩ => ?_
        unfold evE at h
        rw [q] at h
        simp only [t] at h
        refine rda_of he S (PostR.bind0 h) fun xs st1 r1 H1 vs u1 S1 hx e1 h1 => ?_
        obtain ⟨r2, U2, _, S2, R2⟩ := mats_ok u1 S1 hx
        have el := evEs_len e1
        intro y dx hy hdx hne
        have hy' : upd H1 dx (.own y) y = none := by rw [upd_ne (Ne.symm hne)]; exact hy
        have n1 := Up.new (r := r2) (o := .own y) hdx
        have n2 := Up.new (r := r2) (o := .ins C dx []) hy'
        have S3 := (S2.new (o := .own y) hdx).new (o := .ins C dx []) hy'
        have off : Off r2 y := S2.off hy
        have S4 := S3.snoc off (c := .ins x []) ⟨C, dx, [], hm, upd_same, rfl⟩
        have hlen := S2.len
        have U4 : Up r H (r2 ++ [y]) (upd (upd H1 dx (.own y)) y (.ins C dx [])) := by
          have u := (U2.trans n1).trans n2
          refine ⟨u.pre.trans (Ext.snoc r2 y), u.keep, fun n bb z1 z2 => ?_, u.dom⟩
          by_cases hn : n < r2.length
          · rw [List.getElem?_append_left hn] at z2; exact u.fresh n bb z1 z2
          · rw [List.getElem?_append_right (by omega)] at z2
            cases qq : n - r2.length with
            | zero => rw [qq] at z2; simp at z2; subst z2; exact U2.dom _ hy
            | succ m => rw [qq] at z2; simp at z2
        have hget : (r2 ++ [y])[(mats xs st1).2.length]? = some y := by rw [← hlen]; simp
        have hself : Rel X.K (r2 ++ [y]) (upd (upd H1 dx (.own y)) y (.ins C dx [])) (.ref (mats xs st1).2.length) (.ref y) := by
          unfold Rel
          exact ⟨y, hget, rfl⟩
        refine ⟨r2 ++ [y], f.full (.ref (mats xs st1).2.length :: (mats xs st1).1), (mats xs st1).2 ++ [.ins x []], ?_, full_ok (by simp only [List.length_cons, mats_len, el]; exact t), S4, ?_⟩
        · unfold Fn.full
          simp only [List.length_cons, mats_len, el]
          exact RelL.append (relL_cons hself (RelL.mono (Ext.snoc r2 y) ((n1.trans n2).sqT) R2)) (d3 _ _)
        · cases qg : go f (f.full (.ref (mats xs st1).2.length :: (mats xs st1).1)) ((mats xs st1).2 ++ [.ins x []]) with
          | stuck => rw [qg] at h1; exact h1
          | ex c fs st3 =>
            rw [qg] at h1
            exact fun r' H' cls od u' s' => h1 r' H' cls od (U4.trans u') s'
          | ok z st3 =>
            rw [qg] at h1
            cases z with
            | t ds => exact h1.elim
            | v d =>
              cases d with
              | non =>
                intro r' H' u' s' v hv
                refine ⟨rel_non hv, h1 r' H' (U4.trans u') s' _ ?_⟩
                unfold RelEv Rel
                exact ⟨y, u'.pre _ _ hget, rfl⟩
              | _ => exact h1.elim
/-! ### isinstance -/
def tnm : TyN → String
  | .int => "int" | .bool => "bool" | .str => "str" | .list => "list" | .tuple => "tuple" | .dict => "dict" | .non => "NoneType"
theorem isT_kit (t n : TyN) (h : n ≠ .non) : kitB (tnm t) (tnm n) = some (isT t n) := by
  cases t <;> cases n <;> first | (exact absurd rfl h) | decide +kernel
theorem tyD_ok {r : List Addr} {H H0 : Hp} {st : Store} {x : Ev} {v : V} {t : TyN} (S : Sim X.K X.mg r st H) (h : RelEv X.K r H0 H x v) (e : tyD x st = some t) : TyX X.K H v (.type (tnm t)) := by
  cases x with
  | t ds =>
    cases e
    obtain ⟨a, xs, rfl, _, _, h4, _⟩ := h
    exact .base (.lst h4)
  | v d =>
    cases d with
    | non => cases e; rw [rel_non h]; exact .base .non
    | bl b => cases e; rw [rel_bl h]; exact .base (.bl b)
    | int b => cases e; rw [rel_int h]; exact .base (.int b)
    | str b => cases e; rw [rel_str h]; exact .base (.str b)
    | tup ds =>
      cases e
      unfold RelEv Rel at h
      obtain ⟨a, xs, rfl, hq, _⟩ := h
      exact .base (.tup hq)
    | ro ds =>
      cases e
      unfold RelEv Rel at h
      obtain ⟨a, xs, rfl, hq, _⟩ := h
      rcases hq with ⟨ob, hq⟩ | ⟨ob, its, n, h1, h2, _⟩
      · exact .base (.frz hq)
      · exact .kList h1 h2
    | ref n =>
      unfold tyD at e
      simp only at e
      unfold RelEv Rel at h
      obtain ⟨a, h1, rfl⟩ := h
      cases q : st[n]? with
      | none => rw [q] at e; cases e
      | some cc =>
        rw [q] at e
        have z := S.ok n a cc h1 q
        cases cc with
        | lst ds =>
          cases e
          obtain ⟨xs, z1, _⟩ := z
          exact .base (.lst z1)
        | ins c fs => cases e
        | dic lk kvs =>
          cases lk with
          | true => cases e
          | false =>
            cases e
            obtain ⟨kw, z1, _⟩ := z
            exact .base (.dK z1)
theorem kit_any {t : TyN} : ∀ {ts : List Ty} {bb : Bool}, isiD t ts = some bb → ∃ us : List TyN, ts = us.map Ty.bi ∧ (∀ n ∈ us, n ≠ .non) ∧ PySem.W.kitAny X.K (.type (tnm t)) (us.map fun n => .type (tnm n)) = some bb
  | [], bb, h => by cases h; exact ⟨[], rfl, by simp, kitAny_nil⟩
  | y :: ys, bb, h => by
    unfold isiD at h
    split at h
    · rename_i x z e1 e2
      cases h
      obtain ⟨us, h1, h2, h3⟩ := kit_any e2
      cases y with
      | own c => cases e1
      | bi n =>
        unfold isi1 at e1
        simp only at e1
        split at e1
        · cases e1
        · rename_i hn
          cases e1
          refine ⟨n :: us, by simp [h1], ?_, ?_⟩
          · intro m hm
            rcases List.mem_cons.mp hm with rfl | hm
            · exact hn
            · exact h2 m hm
          · refine kitAny_cons (kit_ty (isT_kit t n hn)) (fun hb => ?_) (fun hb => ?_)
            · rw [hb]; exact h3
            · rw [hb]; rfl
    · cases h
theorem tyOf_bi {t : Expr} {n : TyN} (h : tyOf sc t = some (.bi n)) : ∃ x p, t = .Name x p ∧ isGl sc x = true ∧ x ∈ bNames ∧ x ≠ "__name__" ∧ bootBuiltins x = some (.type (tnm n)) := by
  unfold tyOf at h
  split at h
  · rename_i x p
    split at h
    · rename_i hg
      refine ⟨x, p, rfl, hg, ?_⟩
      repeat (split at h; (rename_i e; cases h; subst e; exact ⟨by simp [bNames], by decide +kernel, by decide +kernel⟩))
      cases h
    · cases h
  · cases h
theorem pe_ty (G : Good P go k X sc W) {t : Expr} {n : TyN} (h : tyOf sc t = some (.bi n)) : PE X t (tC (.ty (tnm n))) := by
  obtain ⟨x, p, rfl, hg, hb, hn, hv⟩ := tyOf_bi h
  obtain ⟨g1, g2⟩ := isGl_of hg
  exact pe_bltn (G.gl g1) (G.tab.bi x hb) hv rfl hn g2
theorem ty_nostar {t : Expr} {n : TyN} (h : tyOf sc t = some (.bi n)) : isStar t = false := by
  obtain ⟨x, p, rfl, _⟩ := tyOf_bi h
  rfl
theorem pa_tys (G : Good P go k X sc W) : ∀ {ts : List Expr} {us : List TyN}, ts.mapM (tyOf sc) = some (us.map Ty.bi) → PA X ts (fun _ H Q => Q (us.map fun n => .ty (tnm n)) H) ∧ ts.length = us.length
  | [], us, h => by
    cases us with
    | nil => exact ⟨pa_nil, rfl⟩
    | cons u us => simp at h
  | t :: ts, us, h => by
    rw [List.mapM_cons] at h
    cases e1 : tyOf sc t with
    | none => rw [e1] at h; cases h
    | some y =>
      cases e2 : ts.mapM (tyOf sc) with
      | none => rw [e1, e2] at h; cases h
      | some ys =>
        rw [e1, e2] at h
        have h' : y :: ys = us.map Ty.bi := Option.some.inj h
        cases us with
        | nil => cases h'
        | cons u us =>
          simp only [List.map_cons, List.cons.injEq] at h'
          obtain ⟨rfl, rfl⟩ := h'
          obtain ⟨h3, h4⟩ := pa_tys G e2
          exact ⟨pa_cons (pe_ty G e1) h3 (star_cons (ty_nostar e1)), by simp [h4]⟩
theorem vals_tys : ∀ us : List TyN, Paired ClsV (us.map fun n => V.ty (tnm n)) (us.map fun n => Value.type (tnm n))
  | [] => .nil
  | u :: us => .cons (.ty _) (vals_tys us)
theorem isi_stuck {ts : List Ty} (h : ∀ t, isiD t ts = none) {σ : L2.St} {H : Hp} {Q : VK} {one : Bool} : RE P go X W (.isi a' ts one) σ H Q → RE P go X W a' σ H fun _ _ => False := fun ⟨r, env, st, he, S, z⟩ => by
  unfold evE at z
  refine rd_of he S z.bind fun x st1 r1 H1 v u1 S1 hx h1 => ?_
  split at h1
  · rw [h] at h1; exact h1
  · exact h1
theorem isi_fst {t : TyN} {y : Ty} {ys : List Ty} {bb : Bool} (h : isiD t (y :: ys) = some bb) : ∃ n, y = .bi n := by
  unfold isiD at h
  cases y with
  | bi n => exact ⟨n, rfl⟩
  | own c => simp [isi1] at h
theorem s_isi1 (G : Good P go k X sc W) {t : Expr} {n : TyN} (hg : Gl X "isinstance") (ht : tyOf sc t = some (.bi n)) (hs : isStar a = false) (ha : PE X a (RE P go X W a')) : PE X (.Call (.Name "isinstance" p) [a, t] [] pos) (RE P go X W (.isi a' [.bi n] true)) := by
  refine (pe_callB call_isi hg (G.tab.bi _ (by simp [bNames])) (by decide +kernel) (pa_cons ha (pa_cons (pe_ty G ht) pa_nil (star_cons (ty_nostar ht))) (star_cons hs)) (by decide +kernel) (by decide +kernel) (star_cons hs) (star_any (by simp [ty_nostar ht]))).weak ?_
  rintro σ H Q ⟨r, env, st, he, S, h⟩
  unfold evE at h
  refine rd_of he S h.bind fun x st1 r1 H1 v u1 S1 hx h1 => ?_
  split at h1
  · rename_i ty e1
    obtain ⟨bb, e2, q⟩ := post_bV h1 S1
    obtain ⟨us, h2, h3, h4⟩ := kit_any (X := X) e2
    cases us with
    | nil => cases h2
    | cons u us =>
      simp only [List.map_cons, List.cons.injEq, Ty.bi.injEq] at h2
      obtain ⟨rfl, h5⟩ := h2
      have : us = [] := by cases us with | nil => rfl | cons _ _ => cases h5
      subst this
      have hu : n ≠ .non := h3 n (by simp)
      have e3 : bb = isT ty n := by
        unfold isiD isi1 isiD at e2
        simp [hu] at e2
        exact e2.symm
      refine ⟨v, _, _, _, isT ty n, rfl, .ty _, tyD_ok S1 hx e1, kit_ty (isT_kit ty n hu), ?_⟩
      rw [← e3]
      exact q _ rel_bl'
  · exact h1.elim
theorem s_isiN (G : Good P go k X sc W) {ts : List Expr} {us : List TyN} {x1 : Nat} {p2 : Pos} (hg : Gl X "isinstance") (ht : ts.mapM (tyOf sc) = some (us.map Ty.bi)) (hs : isStar a = false) (ha : PE X a (RE P go X W a')) (hl : ts.length < 100) :
    PE X (.Call (.Name "isinstance" p) [a, .Tuple ts x1 p2] [] pos) (RE P go X W (.isi a' (us.map Ty.bi) false)) := by
  obtain ⟨pt, hlen⟩ := pa_tys G ht
  refine (pe_callB call_isiT hg (G.tab.bi _ (by simp [bNames])) (by decide +kernel) (pa_cons ha (pa_cons (pe_tup pt) pa_nil (star_cons rfl)) (star_cons hs)) (by decide +kernel) (by decide +kernel) (star_cons hs) (star_any rfl)).weak ?_
  rintro σ H Q ⟨r, env, st, he, S, h⟩
  unfold evE at h
  refine rd_of he S h.bind fun x st1 r1 H1 v u1 S1 hx h1 => ?_
  refine ⟨by rw [List.length_map, ← hlen, sizeLine_eq]; omega, fun tp htp => ?_⟩
  split at h1
  · rename_i ty e1
    obtain ⟨bb, e2, q⟩ := post_bV (h1.up (Up.new (o := .tup (us.map fun n => .ty (tnm n))) htp)) (S1.new htp)
    obtain ⟨us', h2, h3, h4⟩ := kit_any (X := X) e2
    have e4 : us' = us := by
      have := congrArg (List.map fun (y : Ty) => match y with | .bi n => n | .own _ => TyN.non) h2
      simpa [List.map_map, Function.comp_def] using this.symm
    subst e4
    refine ⟨v, tp, _, _, _, bb, rfl, upd_same, vals_tys _, tyD_ok (S1.new htp) (hx.up (Up.new htp)) e1, h4, ?_⟩
    exact q _ rel_bl'
  · exact h1.elim
/-! ### methods of built-in types -/
/-- what a method's rule asks, from what the interpreter does -/
def BmP (X : Cx) (m : BM) (rr : V → List V → Hp → VK → Prop) : Prop := ∀ {r1 r : List Addr} {st st' : Store} {H0 H1 H : Hp} {o z : Ev} {xs : List Ev} {v : V} {vs : List V} {Q : VK}, Up r1 H1 r H → Sim X.K X.mg r st H → RelEv X.K r H0 H o v → RelEvs X.K r H1 H xs vs → bmD m o xs st = .ok z st' →
  (∀ r' H' w, Up r1 H1 r' H' → Sim X.K X.mg r' st' H' → RelEv X.K r' H1 H' z w → Q w H') → rr v vs H Q
/-- the type whose method it is -/
def bmT : BM → String
  | .split => "str" | .join => "str" | .find => "str" | .dpop => "dict" | .get => "dict" | _ => "list"
theorem dicW_ok {r : List Addr} {H0 H : Hp} {st : Store} {x : Ev} {v : V} (S : Sim X.K X.mg r st H) (h : RelEv X.K r H0 H x v) {kvs : List (L2.Key × D)} (e : dicW st x = some kvs) : ∃ n a kw, x = .v (.ref n) ∧ r[n]? = some a ∧ st[n]? = some (.dic false kvs) ∧ v = .ref a ∧ H a = some (.dK kw) ∧ RelK X.K r H kvs kw := by
  cases x with
  | t es => cases e
  | v d =>
    cases d with
    | ref n =>
      unfold RelEv Rel at h
      obtain ⟨a, h1, rfl⟩ := h
      unfold dicW at e
      simp only at e
      split at e
      · rename_i kvs' q
        cases e
        obtain ⟨kw, z1, z2⟩ := S.ok n a _ h1 q
        exact ⟨n, a, kw, rfl, h1, q, rfl, z1, z2⟩
      · cases e
    | _ => cases e
theorem recv_ty {r : List Addr} {H0 H : Hp} {st : Store} {x : Ev} {v : V} {m : BM} (S : Sim X.K X.mg r st H) (h : RelEv X.K r H0 H x v) (e : bmRecv m x st = true) : tyV X.K (bmT m) v H := by
  have lst : isLst x st = true → tyV X.K "list" v H := fun e => by
    have : ∃ ds, lstE st x = some ds := by
      cases x with
      | t ds => exact ⟨ds, rfl⟩
      | v d =>
        cases d with
        | ro ds => exact ⟨ds, rfl⟩
        | ref n =>
          unfold isLst at e
          simp only at e
          cases q : st[n]? with
          | none => rw [q] at e; cases e
          | some cc =>
            rw [q] at e
            cases cc with
            | lst ds => exact ⟨ds, by unfold lstE items; simp only [q]⟩
            | _ => cases e
        | _ => cases e
    obtain ⟨ds, e2⟩ := this
    obtain ⟨a, xs, rfl, hq, _⟩ := lstE_ok S h e2
    exact .inl ⟨rfl, xs, hq⟩
  have str : isStrE x = true → tyV X.K "str" v H := fun e => by
    cases x with
    | t _ => cases e
    | v d =>
      cases d with
      | str s => rw [rel_str h]; rfl
      | _ => cases e
  have dic : (dicW st x).isSome = true → tyV X.K "dict" v H := fun e => by
    obtain ⟨kvs, e2⟩ := Option.isSome_iff_exists.mp e
    obtain ⟨n, a, kw, rfl, _, _, rfl, hk, _⟩ := dicW_ok S h e2
    exact .inr (.inr (.inl ⟨rfl, .inl ⟨kw, hk⟩⟩))
  cases m with
  | split => exact str e
  | join => exact str e
  | find => exact str e
  | dpop => exact dic e
  | get => exact dic e
  | append => exact lst e
  | clear => exact lst e
  | extend => exact lst e
  | reverse => exact lst e
  | insert => exact lst e
  | pop => exact lst e
  | index => exact lst e
  | count => exact lst e
theorem bmD_noex {m : BM} {o : Ev} {xs : List Ev} {st st' : Store} {c : Str} {fs : List (Str × D)} : bmD m o xs st ≠ .ex c fs st' := by
  intro h
  cases m with
  | append => have h' : bAppend o xs st = .ex c fs st' := h; unfold bAppend at h'; repeat' (first | (cases h'; done) | split at h')
  | clear => have h' : bClear o xs st = .ex c fs st' := h; unfold bClear at h'; repeat' (first | (cases h'; done) | split at h')
  | extend => have h' : bExtend o xs st = .ex c fs st' := h; unfold bExtend at h'; repeat' (first | (cases h'; done) | split at h')
  | reverse => have h' : bReverse o xs st = .ex c fs st' := h; unfold bReverse at h'; repeat' (first | (cases h'; done) | split at h')
  | insert => have h' : bInsert o xs st = .ex c fs st' := h; unfold bInsert at h'; repeat' (first | (cases h'; done) | split at h')
  | pop => have h' : bPop o xs st = .ex c fs st' := h; unfold bPop at h'; repeat' (first | (cases h'; done) | split at h')
  | index => have h' : bIndex o xs st = .ex c fs st' := h; unfold bIndex at h'; repeat' (first | (cases h'; done) | split at h')
  | count => have h' : bCount o xs st = .ex c fs st' := h; unfold bCount at h'; repeat' (first | (cases h'; done) | split at h')
  | split => have h' : bSplit o xs st = .ex c fs st' := h; unfold bSplit at h'; repeat' (first | (cases h'; done) | split at h')
  | join => have h' : bJoin o xs st = .ex c fs st' := h; unfold bJoin at h'; repeat' (first | (cases h'; done) | split at h')
  | find => have h' : bFind o xs st = .ex c fs st' := h; unfold bFind at h'; repeat' (first | (cases h'; done) | split at h')
  | dpop => have h' : bDpop o xs st = .ex c fs st' := h; unfold bDpop at h'; repeat' (first | (cases h'; done) | split at h')
  | get => have h' : bGet o xs st = .ex c fs st' := h; unfold bGet at h'; repeat' (first | (cases h'; done) | split at h')
section
variable {T nm id : String} {rr : V → List V → Hp → VK → Prop} {m : BM}
theorem s_bmX {x : Str} (eT : T = bmT m) (pa : PlainAttrs T) (slot : Slot T x id) (hty : typeOf (.builtin id) = pure (.type "method_descriptor")) (hm : MtR X id rr) (hb : BmP X m rr) (ho : PE X o (RE P go X W o')) (hs : es.any isStar = false) (ha : PA X es (RA P go X W es')) (h0 : es = [] → es' = .nil)
    (hr : recvOk o = true) (hl : es.length < 20) (hp : (apos.endLine == pos.line) = true) : PE X (.Call (.Attribute o x apos) es [] pos) (RE P go X W (.bm m o' es')) := by
  subst eT
  cases es with
  | nil =>
    rw [h0 rfl]
    refine (pe_bm0 pa slot hty hm ho (base_ok hr) hp).weak ?_
    rintro σ H Q ⟨r, env, st, he, S, h⟩
    unfold evE at h
    refine rd_of he S (PostR.bind0 h) fun x st1 r1 H1 v u1 S1 hx h1 => ?_
    split at h1
    · rename_i hrc
      refine ⟨recv_ty S1 hx hrc, ?_⟩
      have h2 : PostR X.K X.mg r1 H1 (bmD m x [] st1) (OkE X.K H Q) (Wat W σ) := by
        have h1' := h1.up u1
        unfold evEs at h1'
        exact h1'
      cases q : bmD m x [] st1 with
      | stuck => rw [q] at h2; exact h2.elim
      | ex c fs st => exact absurd q bmD_noex
      | ok z st' =>
        rw [q] at h2
        exact hb (Up.refl r1 H1) S1 hx (xs := []) (vs := []) rfl q fun r' H' w u' s' hw => h2 r' H' u' s' w (hw.older u1.dom)
    · exact h1.elim
  | cons e es =>
    have h1 : isStar e = false ∧ es.any isStar = false := by simpa using hs
    refine (pe_bm pa slot hty hm ho ha (base_ok hr) (few_ok hs hl) hp (star_cons h1.1) (star_any h1.2)).weak ?_
    rintro σ H Q ⟨r, env, st, he, S, h⟩
    unfold evE at h
    refine rd_of he S (PostR.bind0 h) fun x st1 r1 H1 v u1 S1 hx h1 => ?_
    split at h1
    · rename_i hrc
      refine ⟨recv_ty S1 hx hrc, ?_⟩
      refine rda_of (he.up u1) S1 (PostR.bind0 (h1.up u1)) fun ys st2 r2 H2 vs u2 S2 hy e2 h2 => ?_
      cases q : bmD m x ys st2 with
      | stuck => rw [q] at h2; exact h2.elim
      | ex c fs st => exact absurd q bmD_noex
      | ok z st' =>
        rw [q] at h2
        exact hb u2 S2 (hx.up u2) hy q fun r' H' w u' s' hw => h2 r' H' u' s' w (hw.older u1.dom)
    · exact h1.elim
end
/-! one by one -/
theorem lst_at {r : List Addr} {H0 H : Hp} {st : Store} {n : Nat} {ds : List D} {v : V} (S : Sim X.K X.mg r st H) (h : RelEv X.K r H0 H (.v (.ref n)) v) (e : st[n]? = some (.lst ds)) : ∃ a xs, r[n]? = some a ∧ v = .ref a ∧ H a = some (.lst xs) ∧ RelL X.K r H ds xs := by
  unfold RelEv Rel at h
  obtain ⟨a, h1, rfl⟩ := h
  obtain ⟨xs, z1, z2⟩ := S.ok n a _ h1 e
  exact ⟨a, xs, h1, rfl, z1, z2⟩
theorem lst_set {r1 r : List Addr} {H1 H : Hp} {st : Store} {n : Nat} {a : Addr} {ds ds' : List D} {xs xs' : List V} (U : Up r1 H1 r H) (S : Sim X.K X.mg r st H) (hr : r[n]? = some a) (hs : st[n]? = some (.lst ds)) (ha : H a = some (.lst xs)) (hx : RelL X.K r H ds' xs') :
    Up r1 H1 r (upd H a (.lst xs')) ∧ Sim X.K X.mg r (st.set n (.lst ds')) (upd H a (.lst xs')) := by
  obtain ⟨S4, U4⟩ := S.write (o' := .lst xs') (c' := .lst ds') hr hs ha (fun f => f) fun t => ⟨_, upd_same, RelL.mono (Ext.refl r) t hx⟩
  exact ⟨U.trans U4, S4⟩
theorem lenS {n : Nat} (h : n < lim) : n < sizeLine := by rw [sizeLine_eq]; unfold lim at h; omega
theorem bm_append : BmP X .append rAppend := fun {r1 r st st' H0 H1 H o z xs v vs Q} U S ho hx e q => by
  have e' : bAppend o xs st = .ok z st' := e
  unfold bAppend at e'
  split at e'
  · split at e'
    · rename_i n y _ ds q3
      split at e'
      · rename_i hlim
        cases e'
        obtain ⟨w, rfl, hw⟩ := one_of hx
        obtain ⟨r3, U3, E3, S3, R3, _⟩ := mat_ok U S hw
        obtain ⟨a, us, hr, rfl, ha, hu⟩ := lst_at (H0 := H) S3 (Rel.mono E3 (Tups.refl H) ho) q3
        obtain ⟨U4, S4⟩ := lst_set U3 S3 hr q3 ha (hu.append (relL_cons R3 relL_nil))
        exact ⟨a, us, w, rfl, rfl, ha, by rw [← hu.length]; exact lenS hlim, q _ _ _ U4 S4 rel_non'⟩
      · cases e'
    · cases e'
  · cases e'
theorem bm_insert : BmP X .insert (fun x vs H Q => ∃ (l : Addr) (xs : List V) (i : Int) (y : V), x = .ref l ∧ vs = [.int i, y] ∧ H l = some (.lst xs) ∧ xs.length < sizeLine ∧ 0 ≤ i ∧ i < 2 ^ 63 ∧
    Q .non (upd H l (.lst (xs.take i.toNat ++ [y] ++ xs.drop i.toNat)))) := fun {r1 r st st' H0 H1 H o z xs v vs Q} U S ho hx e q => by
  have e' : bInsert o xs st = .ok z st' := e
  unfold bInsert at e'
  split at e'
  · split at e'
    · rename_i n i y _ ds q3
      split at e'
      · rename_i hlim
        cases e'
        obtain ⟨u, w, rfl, hu0, hw⟩ := two_of hx
        rw [rel_int hu0]
        obtain ⟨r3, U3, E3, S3, R3, _⟩ := mat_ok U S hw
        obtain ⟨a, us, hr, rfl, ha, hu⟩ := lst_at (H0 := H) S3 (Rel.mono E3 (Tups.refl H) ho) q3
        obtain ⟨U4, S4⟩ := lst_set U3 S3 hr q3 ha (((hu.take i.toNat).append (relL_cons R3 relL_nil)).append (hu.drop i.toNat))
        exact ⟨a, us, i, w, rfl, rfl, ha, by rw [← hu.length]; exact lenS hlim.1, hlim.2.1, hlim.2.2, q _ _ _ U4 S4 rel_non'⟩
      · cases e'
    · cases e'
  · cases e'
theorem bm_extend : BmP X .extend rExtend := fun {r1 r st st' H0 H1 H o z xs v vs Q} U S ho hx e q => by
  have e' : bExtend o xs st = .ok z st' := e
  unfold bExtend at e'
  split at e'
  · split at e'
    · rename_i n y _ _ ds es q3 q4
      split at e'
      · rename_i hlim
        cases e'
        obtain ⟨w, rfl, hw⟩ := one_of hx
        obtain ⟨b, ws, rfl, hb, hws⟩ := lstW_ok S hw q4
        obtain ⟨a, us, hr, rfl, ha, hu⟩ := lst_at S ho q3
        obtain ⟨U4, S4⟩ := lst_set U S hr q3 ha (hu.append hws)
        exact ⟨a, b, us, ws, rfl, rfl, ha, hb, by rw [← hu.length, ← hws.length]; exact Nat.le_of_lt (lenS hlim), q _ _ _ U4 S4 rel_non'⟩
      · cases e'
    · cases e'
  · cases e'
theorem bm_reverse : BmP X .reverse rReverse := fun {r1 r st st' H0 H1 H o z xs v vs Q} U S ho hx e q => by
  have e' : bReverse o xs st = .ok z st' := e
  unfold bReverse at e'
  split at e'
  · split at e'
    · rename_i n _ ds q3
      cases e'
      obtain ⟨a, us, hr, rfl, ha, hu⟩ := lst_at S ho q3
      obtain ⟨U4, S4⟩ := lst_set U S hr q3 ha hu.rev
      exact ⟨a, us, rfl, hx, ha, q _ _ _ U4 S4 rel_non'⟩
    · cases e'
  · cases e'
theorem bm_clear : BmP X .clear (fun x vs H Q => ∃ l xs, x = .ref l ∧ vs = [] ∧ H l = some (.lst xs) ∧ Q .non (upd H l (.lst []))) := fun {r1 r st st' H0 H1 H o z xs v vs Q} U S ho hx e q => by
  have e' : bClear o xs st = .ok z st' := e
  unfold bClear at e'
  split at e'
  · split at e'
    · rename_i n _ ds q3
      cases e'
      obtain ⟨a, us, hr, rfl, ha, hu⟩ := lst_at S ho q3
      obtain ⟨U4, S4⟩ := lst_set U S hr q3 ha relL_nil
      exact ⟨a, us, rfl, hx, ha, q _ _ _ U4 S4 rel_non'⟩
    · cases e'
  · cases e'
theorem RelL.dropLast {K : Frag} {r : List Addr} {H : Hp} {ds : List D} {xs : List V} (h : RelL K r H ds xs) : RelL K r H ds.dropLast xs.dropLast := by
  rw [List.dropLast_eq_take, List.dropLast_eq_take, h.length]
  exact h.take _
theorem bm_pop : BmP X .pop rPop := fun {r1 r st st' H0 H1 H o z xs v vs Q} U S ho hx e q => by
  have e' : bPop o xs st = .ok z st' := e
  unfold bPop at e'
  split at e'
  · split at e'
    · rename_i n _ ds q3
      split at e'
      · rename_i d q4
        cases e'
        obtain ⟨a, us, hr, rfl, ha, hu⟩ := lst_at S ho q3
        obtain ⟨w, hw, Rw⟩ := hu.get q4
        obtain ⟨U4, S4⟩ := lst_set U S hr q3 ha hu.dropLast
        rw [hu.length] at hw
        refine ⟨a, us, w, rfl, hx, ha, hw, q _ _ _ U4 S4 ?_⟩
        refine Rel.mono (Ext.refl r) (tups_of fun b u e f => ?_) Rw
        by_cases hb : b = a
        · subst hb; rw [ha] at e; cases e; exact f.elim
        · rw [upd_ne hb]; exact e
      · cases e'
    · cases e'
  · cases e'
theorem idxOf_ok {f : D → Bool} : ∀ {ds : List D} {k : Nat}, idxOf f ds = some k → (∃ d, ds[k]? = some d ∧ f d = true) ∧ ∀ (m : Nat) d, m < k → ds[m]? = some d → f d = false
  | [], k, h => by cases h
  | d :: ds, k, h => by
    unfold idxOf at h
    split at h
    · rename_i e
      cases h
      exact ⟨⟨d, rfl, e⟩, fun m d' hm => absurd hm (Nat.not_lt_zero m)⟩
    · rename_i e
      cases q : idxOf f ds with
      | none => rw [q] at h; cases h
      | some j =>
        rw [q] at h
        cases h
        obtain ⟨⟨d', h1, h2⟩, h3⟩ := idxOf_ok q
        refine ⟨⟨d', by simpa using h1, h2⟩, fun m d'' hm hd => ?_⟩
        cases m with
        | zero => cases hd; simpa using e
        | succ m => exact h3 m d'' (Nat.lt_of_succ_lt_succ hm) (by simpa using hd)
theorem bm_index : BmP X .index (rIndex X.K) := fun {r1 r st st' H0 H1 H o z xs v vs Q} U S ho hx e q => by
  have e' : bIndex o xs st = .ok z st' := e
  unfold bIndex at e'
  split at e'
  · split at e'
    · rename_i d _ ds q3
      split at e'
      · rename_i hf
        obtain ⟨f1, f2⟩ := Bool.and_eq_true_iff.mp hf
        split at e'
        · rename_i k q4
          cases e'
          obtain ⟨w, rfl, hw⟩ := one_of hx
          have hw' : Rel X.K r H d w := hw
          obtain ⟨a, us, rfl, ha, hu⟩ := lstE_ok S ho q3
          obtain ⟨⟨d', h1, h2⟩, h3⟩ := idxOf_ok q4
          obtain ⟨u, hu1, hu2⟩ := hu.get h1
          have fl : ∀ (m : Nat) d2, ds[m]? = some d2 → flatD d2 = true := fun m d2 hm => List.all_eq_true.mp f2 d2 (List.mem_of_getElem? hm)
          refine ⟨a, us, w, k, u, rfl, rfl, ha, flat_rel hw' f1, flats_rel hu f2, hu1, ?_, fun m z' hm hz => ?_, q _ _ _ U S rel_int'⟩
          · rw [← eq0_rel (st := st) hu2 hw' (fl k d' h1) f1]; exact h2
          · have hm2 : m < ds.length := by rw [hu.length]; exact (List.getElem?_eq_some_iff.mp hz).1
            have e5 : ds[m]? = some ds[m] := List.getElem?_eq_getElem hm2
            obtain ⟨u', g1, g2⟩ := hu.get e5
            rw [hz] at g1
            cases g1
            rw [← eq0_rel (st := st) g2 hw' (fl m _ e5) f1]
            exact h3 m _ hm e5
        · cases e'
      · cases e'
    · cases e'
  · cases e'
def rCntF (K : Frag) : V → List V → Hp → VK → Prop := fun x xs H Q => ∃ (p : Addr) (ys : List V) (y : V), x = .ref p ∧ xs = [y] ∧ SqL K H p ys ∧ flatV y = true ∧ ys.all flatV = true ∧ Q (.int (ys.countP (fun z => eqV z y) : Nat)) H
theorem count_U {y : V} : ∀ {ys : List V} {us : List Value}, Vals ys us → ys.all flatV = true → us.countP (eqU y) = ys.countP fun z => eqV z y
  | _, _, .nil, _ => rfl
  | x :: ys, u :: us, .cons h hr, f => by
    have f' : flatV x = true ∧ ys.all flatV = true := by simpa [List.all_cons] using f
    rw [List.countP_cons, List.countP_cons, count_U hr f'.2, eqU_of h f'.1]
theorem mt_cntF : MtR X "list.count" (rCntF X.K) := by
  intro pins s σ H x xs v us Q I rx rxs h
  obtain ⟨p, ys, y, rfl, rfl, hs, fy, fys, q⟩ := h
  cases rx
  obtain ⟨u, rfl, ru⟩ := rxs.one
  obtain ⟨its, rv, ⟨⟨cls, dd, data, sl⟩, n, ho, hc, hdn, hd⟩, hlen⟩ := I.list hs
  simp only at hc hd
  subst hc hd
  have at_ := mem_eqAt (A := X.A.in1) (s := s) ru fy rv fys
  refine call_meets PySem.F.slot_list_count ⟨_, ho, rfl⟩ PySem.F.entry_list_count (PySem.F.args_list_count_2 _ _) (SeqAt.list_countAt p its.toArray n dd sl u (eqU y)) ⟨ho, fun w hw => ?_, ?_⟩
  · exact at_ w (by simpa using hw)
  · refine ⟨.int (ys.countP (fun z => eqV z y) : Nat), H, I.tok _, ⟨s.toks, ?_⟩, q⟩
    rw [← count_U rv fys]
theorem bm_count : BmP X .count (rCntF X.K) := fun {r1 r st st' H0 H1 H o z xs v vs Q} U S ho hx e q => by
  have e' : bCount o xs st = .ok z st' := e
  unfold bCount at e'
  split at e'
  · split at e'
    · rename_i d _ ds q3
      split at e'
      · rename_i hf
        obtain ⟨f1, f2⟩ := Bool.and_eq_true_iff.mp hf
        cases e'
        obtain ⟨w, rfl, hw⟩ := one_of hx
        have hw' : Rel X.K r H d w := hw
        obtain ⟨a, us, rfl, ha, hu⟩ := lstE_ok S ho q3
        refine ⟨a, us, w, rfl, rfl, ha, flat_rel hw' f1, flats_rel hu f2, ?_⟩
        have ec : ∀ {ds : List D} {us : List V}, RelL X.K r H ds us → ds.all flatD = true → us.countP (fun z => eqV z w) = ds.countP fun z => eqB 0 st z d := by
          intro ds
          induction ds with
          | nil => intro us h _; rw [h.unnil]; rfl
          | cons d2 ds ih =>
            intro us h f
            obtain ⟨u, ws, rfl, h1, h2⟩ := h.uncons
            obtain ⟨g1, g2⟩ := all_cons f
            rw [List.countP_cons, List.countP_cons, ih h2 g2, eq0_rel (st := st) h1 hw' g1 f1]
        rw [ec hu f2]
        exact q _ _ _ U S rel_int'
      · cases e'
    · cases e'
  · cases e'
theorem relL_strs {K : Frag} {r : List Addr} {H : Hp} : ∀ l : List Str, RelL K r H (l.map D.str) (l.map V.str)
  | [] => relL_nil
  | i :: l => relL_cons (by unfold Rel; rfl) (relL_strs l)
theorem bm_split : BmP X .split (fun x xs H Q => ∃ a b, x = .str a ∧ xs = [.str b] ∧ (b.length == 0) = false ∧ a.length + 2 ≤ sizeLine ∧ rNewStrs (Txt.split a b) H Q) := fun {r1 r st st' H0 H1 H o z xs v vs Q} U S ho hx e q => by
  have e' : bSplit o xs st = .ok z st' := e
  unfold bSplit at e'
  split at e'
  · rename_i a b
    split at e'
    · rename_i hh
      cases e'
      obtain ⟨w, rfl, hw⟩ := one_of hx
      rw [rel_str ho, rel_str hw]
      refine ⟨a, b, rfl, rfl, hh.1, by rw [sizeLine_eq]; have := hh.2; unfold lim at this; omega, fun p hp => ?_⟩
      have n2 := Up.new (r := r) (o := .lst ((Txt.split a b).map V.str)) hp
      refine q r _ _ (U.trans n2) (S.new hp) ⟨p, _, rfl, U.dom p hp, S.off hp, upd_same, ?_⟩
      exact relL_strs _
    · cases e'
  · cases e'
theorem strsOf_rel {K : Frag} {r : List Addr} {H : Hp} : ∀ {ds : List D} {vs : List V} {ns : List Str}, strsOf ds = some ns → RelL K r H ds vs → vs = ns.map V.str
  | [], vs, ns, e, h => by cases e; exact h.unnil
  | d :: ds, vs, ns, e, h => by
    obtain ⟨v, ws, rfl, h1, h2⟩ := h.uncons
    cases d with
    | str i =>
      have e' : (strsOf ds).map (i :: ·) = some ns := e
      cases q : strsOf ds with
      | none => rw [q] at e'; cases e'
      | some l =>
        rw [q] at e'
        cases e'
        rw [strsOf_rel q h2]
        unfold Rel at h1
        rw [h1]; rfl
    | _ => cases e
theorem bm_join : BmP X .join (fun x xs H Q => ∃ a p, ∃ ys : List Str, x = .str a ∧ xs = [.ref p] ∧ (SqL X.K H p (ys.map V.str) ∨ SqT X.K H p (ys.map V.str)) ∧ (ys.map (·.length)).sum + ys.length * a.length ≤ 16777216 ∧ Q (.str (Txt.join a ys)) H) := fun {r1 r st st' H0 H1 H o z xs v vs Q} U S ho hx e q => by
  have e' : bJoin o xs st = .ok z st' := e
  unfold bJoin at e'
  split at e'
  · rename_i a y
    split at e'
    · rename_i ys q3
      split at e'
      · rename_i hh
        cases e'
        cases q4 : items st y with
        | none => rw [q4] at q3; cases q3
        | some ds =>
          rw [q4] at q3
          obtain ⟨w, rfl, hw⟩ := one_of hx
          rw [rel_str ho]
          obtain ⟨p, us, rfl, hp, hu⟩ := items_ok S hw q4
          have eu := strsOf_rel (show strsOf ds = some ys from q3) hu
          subst eu
          exact ⟨a, p, ys, rfl, rfl, hp, hh, q _ _ _ U S rel_str'⟩
      · cases e'
    · cases e'
  · cases e'
theorem bm_find : BmP X .find (fun x xs H Q => ∃ a b, x = .str a ∧ xs = [.str b] ∧ Q (.int (Txt.find a b)) H) := fun {r1 r st st' H0 H1 H o z xs v vs Q} U S ho hx e q => by
  have e' : bFind o xs st = .ok z st' := e
  unfold bFind at e'
  split at e'
  · cases e'
    obtain ⟨w, rfl, hw⟩ := one_of hx
    rw [rel_str ho, rel_str hw]
    exact ⟨_, _, rfl, rfl, q _ _ _ U S rel_int'⟩
  · cases e'
theorem mt_dpop : MtR X "dict.pop" (fun x xs H Q => ∃ a kvs k v, x = .ref a ∧ xs = [kV k] ∧ H a = some (.dK kvs) ∧ valV kvs k = some v ∧ Q v (upd H a (.dK (dropK kvs k)))) := by
  intro pins s σ H x xs v us Q I rx rxs h
  obtain ⟨a, kvs, k, w, rfl, rfl, hk, hv, q⟩ := h
  cases rx
  obtain ⟨u, rfl, ru⟩ := rxs.one
  exact d_pop I hk ru hv (.inl rfl) fun w' s' I' rw' => ⟨w, _, I', rw', q⟩
theorem bm_dpop : BmP X .dpop (fun x xs H Q => ∃ a kvs k v, x = .ref a ∧ xs = [kV k] ∧ H a = some (.dK kvs) ∧ valV kvs k = some v ∧ Q v (upd H a (.dK (dropK kvs k)))) := fun {r1 r st st' H0 H1 H o z xs v vs Q} U S ho hx e q => by
  have e' : bDpop o xs st = .ok z st' := e
  unfold bDpop at e'
  split at e'
  · split at e'
    · rename_i n k0 _ _ kvs k q3 q4
      split at e'
      · rename_i d q5
        cases e'
        obtain ⟨w, rfl, hw⟩ := one_of hx
        have ho' := ho
        unfold RelEv Rel at ho'
        obtain ⟨a, hr, rfl⟩ := ho'
        obtain ⟨kw, z1, z2⟩ := S.ok n a _ hr q3
        obtain ⟨u, g1, g2⟩ := (z2.get k).1 d q5
        obtain ⟨S4, U4⟩ := S.write (o' := .dK (dropK kw k)) (c' := .dic false (dDrop kvs k)) hr q3 z1 (fun f => f) fun t => ⟨_, upd_same, (z2.drop (k := k)).mono (Ext.refl r) t⟩
        refine ⟨a, kw, k, u, rfl, by rw [dkey_rel hw q4], z1, g1, q _ _ _ (U.trans U4) S4 (U4.rel g2)⟩
      · cases e'
    · cases e'
  · cases e'
theorem mt_dget (hu : X.A.units + 1 + 1 < cLine) : MtR X "dict.get" (fun x xs H Q => ∃ a y z o, x = .ref a ∧ xs = [y, z] ∧ DGet H a y o ∧ Q (o.getD z) H) := by
  intro pins s σ H x xs v us Q I rx rxs h
  obtain ⟨a, y, z, ov, rfl, rfl, g, q⟩ := h
  cases rx
  obtain ⟨u1, u2, rfl, r1, r2⟩ := rxs.two
  exact d_get2 (by omega) I g r1 r2 fun w' s' I' rw' => ⟨_, H, I', rw', q⟩
theorem bm_get : BmP X .get (fun x xs H Q => ∃ a y z o, x = .ref a ∧ xs = [y, z] ∧ DGet H a y o ∧ Q (o.getD z) H) := fun {r1 r st st' H0 H1 H o z xs v vs Q} U S ho hx e q => by
  have e' : bGet o xs st = .ok z st' := e
  unfold bGet at e'
  split at e'
  · split at e'
    · rename_i k0 y _ _ kvs k q3 q4
      obtain ⟨u, w, rfl, hu, hw⟩ := two_of hx
      obtain ⟨a, kw, rfl, hk, hr⟩ := dicE_ok S ho q3
      obtain ⟨g1, g2⟩ := hr.get k
      have hk0 : u = kV k := dkey_rel hu q4
      split at e'
      · rename_i d q5
        cases e'
        obtain ⟨u2, g3, g4⟩ := g1 d q5
        exact ⟨a, u, w, some u2, rfl, rfl, .inl ⟨kw, k, hk, hk0, g3.symm⟩, q _ _ _ U S g4⟩
      · rename_i q5
        cases e'
        exact ⟨a, u, w, none, rfl, rfl, .inl ⟨kw, k, hk, hk0, (g2 q5).symm⟩, q _ _ _ U S hw⟩
    · cases e'
  · cases e'
theorem bm_of {x : Str} {n : Nat} {m : BM} (h : bmOf x n = some m) : (x = "clear" ∧ m = .clear) ∨ (x = "reverse" ∧ m = .reverse) ∨ (x = "pop" ∧ m = .pop) ∨ (x = "append" ∧ m = .append) ∨ (x = "extend" ∧ m = .extend) ∨ (x = "index" ∧ m = .index) ∨ (x = "count" ∧ m = .count) ∨ (x = "split" ∧ m = .split) ∨ (x = "join" ∧ m = .join) ∨ (x = "find" ∧ m = .find) ∨ (x = "pop" ∧ m = .dpop) ∨ (x = "insert" ∧ m = .insert) ∨ (x = "get" ∧ m = .get) := by
  unfold bmOf at h
  repeat' (first | (cases h; done) | (cases h; subst_vars; simp; done) | split at h)
theorem s_bm (G : Good P go k X sc W) {x : Str} {m : BM} (e : bmOf x es.length = some m) (ho : PE X o (RE P go X W o')) (hs : es.any isStar = false) (ha : PA X es (RA P go X W es')) (h0 : es = [] → es' = .nil)
    (hr : recvOk o = true) (hl : es.length < 20) (hp : (apos.endLine == pos.line) = true) : PE X (.Call (.Attribute o x apos) es [] pos) (RE P go X W (.bm m o' es')) := by
  rcases bm_of e with ⟨rfl, rfl⟩ | ⟨rfl, rfl⟩ | ⟨rfl, rfl⟩ | ⟨rfl, rfl⟩ | ⟨rfl, rfl⟩ | ⟨rfl, rfl⟩ | ⟨rfl, rfl⟩ | ⟨rfl, rfl⟩ | ⟨rfl, rfl⟩ | ⟨rfl, rfl⟩ | ⟨rfl, rfl⟩ | ⟨rfl, rfl⟩ | ⟨rfl, rfl⟩
  · exact s_bmX rfl PySem.F.plainAttrs_list PySem.F.slot_list_clear PySem.F.type_list_clear mt_clear bm_clear ho hs ha h0 hr hl hp
  · exact s_bmX rfl PySem.F.plainAttrs_list PySem.F.slot_list_reverse PySem.F.type_list_reverse mt_reverse bm_reverse ho hs ha h0 hr hl hp
  · exact s_bmX rfl PySem.F.plainAttrs_list PySem.F.slot_list_pop PySem.F.type_list_pop mt_pop bm_pop ho hs ha h0 hr hl hp
  · exact s_bmX rfl PySem.F.plainAttrs_list PySem.F.slot_list_append PySem.F.type_list_append mt_append bm_append ho hs ha h0 hr hl hp
  · exact s_bmX rfl PySem.F.plainAttrs_list PySem.F.slot_list_extend PySem.F.type_list_extend mt_extend bm_extend ho hs ha h0 hr hl hp
  · exact s_bmX rfl PySem.F.plainAttrs_list PySem.F.slot_list_index PySem.F.type_list_index mt_index bm_index ho hs ha h0 hr hl hp
  · exact s_bmX rfl PySem.F.plainAttrs_list PySem.F.slot_list_count PySem.F.type_list_count mt_cntF bm_count ho hs ha h0 hr hl hp
  · exact s_bmX rfl PySem.F.plainAttrs_str PySem.F.slot_str_split PySem.F.type_str_split mt_split bm_split ho hs ha h0 hr hl hp
  · exact s_bmX rfl PySem.F.plainAttrs_str PySem.F.slot_str_join PySem.F.type_str_join mt_join bm_join ho hs ha h0 hr hl hp
  · exact s_bmX rfl PySem.F.plainAttrs_str PySem.F.slot_str_find PySem.F.type_str_find mt_find bm_find ho hs ha h0 hr hl hp
  · exact s_bmX rfl PySem.F.plainAttrs_dict PySem.F.slot_dict_pop PySem.F.type_dict_pop mt_dpop bm_dpop ho hs ha h0 hr hl hp
  · exact s_bmX rfl PySem.F.plainAttrs_list PySem.F.slot_list_insert PySem.F.type_list_insert mt_insert bm_insert ho hs ha h0 hr hl hp
  · exact s_bmX rfl PySem.F.plainAttrs_dict PySem.F.slot_dict_get PySem.F.type_dict_get (mt_dget (by have := G.room.un; omega)) bm_get ho hs ha h0 hr hl hp
end
end SI

set_option maxHeartbeats 2000000
/-! SI 11: targets, what is walked, comprehensions, tests. -/
namespace SI
open PySem L2 PySem.Spec PyProof.Rows
section
variable {P : Prog} {go : Go} {k : Nat} {X : Cx} {sc : Scope} {W : WX} {a b c e o : Expr} {a' b' c' e' o' : E} {es : List Expr} {es' : Es} {pos p apos : Pos}
/-! ### targets -/
def gNs : List Nat → TGs
  | [] => gNil
  | i :: is => gCons (gName i) (gNs is)
def gT (K : Frag) (g : List Nat) (one : Bool) : TG := match one, g with
  | true, [i] => gName i
  | _, is => gTup K is.length (gNs is)
theorem pg_slot (G : Good P go k X sc W) {x : Str} {i : Nat} (h : slotOf X.N sc x = some i) : PG X (.Name x p) (gName i) := by
  obtain ⟨h1, h2⟩ := slot_of h
  refine pg_name G.nd h1 (G.loc h2) ?_
  rcases h2 with h2 | h2
  · rcases G.scr x _ h2 with q | ⟨q, _⟩
    · exact .inr q
    · cases q
  · exact .inl (G.fnc x h2)
def nameSlot (N : List Str) (sc : Scope) (t : Expr) : Option Nat := match t with
  | .Name x _ => slotOf N sc x
  | _ => none
theorem pgs_slots (G : Good P go k X sc W) : ∀ {ts : List Expr} {is : List Nat}, ts.mapM (nameSlot X.N sc) = some is → PGs X ts (gNs is) ∧ (assignEach ts X.env).length = is.length ∧ (assignEach ts X.env).findIdx? (·.1) = none
  | [], is, h => by cases h; exact ⟨pgs_nil, rfl, rfl⟩
  | t :: ts, is, h => by
    rw [List.mapM_cons] at h
    cases e1 : nameSlot X.N sc t with
    | none => rw [e1] at h; cases h
    | some i =>
      cases e2 : ts.mapM (nameSlot X.N sc) with
      | none => rw [e1, e2] at h; cases h
      | some js =>
        rw [e1, e2] at h
        cases h
        obtain ⟨h1, h2, h3⟩ := pgs_slots G e2
        cases t with
        | Name x q =>
          refine ⟨pgs_cons (pg_slot G e1) h1, ?_, ?_⟩
          · show (assignEach ts X.env).length + 1 = js.length + 1
            rw [h2]
          · show List.findIdx? (·.1) ((false, assign (.Name x q) X.env) :: assignEach ts X.env) = none
            simp [List.findIdx?_cons, h3]
        | _ => cases e1
theorem pg_tg (G : Good P go k X sc W) {t : Expr} {g : List Nat} {one : Bool} (h : tgOf X.N sc t = some (g, one)) : PG X t (gT X.K g one) := by
  cases t with
  | Name x q =>
    have h' : (slotOf X.N sc x).map (fun i => ([i], true)) = some (g, one) := h
    cases e : slotOf X.N sc x with
    | none => rw [e] at h'; cases h'
    | some i =>
      rw [e] at h'
      cases h'
      exact pg_slot G e
  | Tuple ts kk q =>
    have h' : (ts.mapM (nameSlot X.N sc)).map (fun is => (is, false)) = some (g, one) := h
    cases e : ts.mapM (nameSlot X.N sc) with
    | none => rw [e] at h'; cases h'
    | some is =>
      rw [e] at h'
      cases h'
      obtain ⟨h1, h2, h3⟩ := pgs_slots G e
      exact pg_tup G.calm h1 h2 h3
  | _ => cases h
theorem setAll_ok {K : Frag} {r : List Addr} {H : Hp} {Q : L2.St → Hp → Prop} : ∀ {is : List Nat} {ds : List D} {xs : List V} {env env' : Env} {σ : L2.St}, setAll is ds env = some env' → RelL K r H ds xs → EnvR K r H env σ → (∀ σ', EnvR K r H env' σ' → Q σ' H) → gNs is xs σ H Q
  | [], ds, xs, env, env', σ, h, hr, he, q => by
    cases ds with
    | nil => cases h; exact ⟨hr.unnil, q σ he⟩
    | cons _ _ => cases h
  | i :: is, ds, xs, env, env', σ, h, hr, he, q => by
    cases ds with
    | nil => cases h
    | cons d ds =>
      obtain ⟨v, vs, rfl, h1, h2⟩ := hr.uncons
      exact ⟨v, vs, rfl, setAll_ok (show setAll is ds (env.set i (some d)) = some env' from h) h2 (he.set i h1) q⟩
theorem setAll_len : ∀ {is : List Nat} {ds : List D} {env env' : Env}, setAll is ds env = some env' → is.length = ds.length
  | [], [], _, _, _ => rfl
  | [], _ :: _, _, _, h => by cases h
  | _ :: _, [], _, _, h => by cases h
  | i :: is, d :: ds, env, env', h => by simp [setAll_len (show setAll is ds (env.set i (some d)) = some env' from h)]
theorem bindG_ok {K : Frag} {r : List Addr} {H : Hp} {Q : L2.St → Hp → Prop} {g : List Nat} {one : Bool} {d : D} {v : V} {env env' : Env} {σ : L2.St} (h : bindG g one d env = some env') (hd : Rel K r H d v) (he : EnvR K r H env σ) (q : ∀ σ', EnvR K r H env' σ' → Q σ' H) : gT K g one v σ H Q := by
  cases one with
  | true =>
    cases g with
    | nil => cases d <;> cases h
    | cons i is =>
      cases is with
      | nil => cases d <;> (cases h; exact q _ (he.set i hd))
      | cons _ _ => cases d <;> cases h
  | false =>
    cases d with
    | tup ds =>
      have h' : setAll g ds env = some env' := by
        cases g with
        | nil => exact h
        | cons i is => cases is <;> exact h
      unfold Rel at hd
      obtain ⟨pa, xs, rfl, h1, h2⟩ := hd
      have go' : gTup K g.length (gNs g) (.ref pa) σ H Q := ⟨pa, xs, rfl, .inl (.inl h1), by rw [← h2.length, setAll_len h'], setAll_ok h' h2 he q⟩
      cases g with
      | nil => exact go'
      | cons i is => cases is <;> exact go'
    | _ => cases g with
      | nil => cases h
      | cons i is => cases is <;> cases h
/-! ### what is walked -/
/-- a list, a tuple, a text -/
def iSeq (K : Frag) (tl : TE) : TI := fun σ H R => tl σ H fun x H1 => (∃ a, x = .ref a ∧ ((∃ xs, SqL K H1 a xs ∧ R (Itl K a) H1) ∨ ∃ xs, SqT K H1 a xs ∧ R (Itt K a) H1)) ∨ ∃ z, x = .str z ∧ R (Its z) H1
theorem pi_seq {tg l : Expr} {tl : TE} (hl : PE X l tl) : PI X tg l (iSeq X.K tl) := by
  constructor
  intro pins s σ H R I h
  refine thn (hl.run pins s σ H _ I h) ?_
  rintro v s1 ⟨x, H1, I1, r1, q⟩
  rcases q with ⟨pa, rfl, q⟩ | ⟨z, rfl, q⟩
  · have hv : v = Value.ref pa := r1
    subst hv
    have fin : ∀ (o : Obj), I1 = I1 → ∀ b ∈ [s1.heap.objs.size], FpOk X pins H1 b := fun o _ b hb => by
      rw [List.mem_singleton.mp hb]
      exact I1.fpOk (Nat.le_refl _) (I1.hok.fresh (Nat.le_refl _))
    rcases q with ⟨xs, hq, q⟩ | ⟨xs, hq, q⟩
    · obtain ⟨its, _, pl, _⟩ := I1.list hq
      refine wpAny_pyIter_list pl.isList ⟨s1.heap.objs.size, [s1.heap.objs.size], _, _, H1, rfl, I1.kept (t' := s1.toks) (fun b o e => Heap.get?_push_of_some _ e), turn_list pa _, ⟨_, Heap.get?_push_size _ rfl, rfl, rfl⟩, fin default rfl, q⟩
    · obtain ⟨its, _, pl, _⟩ := I1.tuple hq
      refine wpAny_pyIter_tuple (show s1.heap.IsTuple pa its.toArray from pl) ⟨s1.heap.objs.size, [s1.heap.objs.size], _, _, H1, rfl, I1.kept (t' := s1.toks) (fun b o e => Heap.get?_push_of_some _ e), turn_tuple pa _, ⟨_, Heap.get?_push_size _ rfl, rfl, rfl⟩, fin default rfl, q⟩
  · obtain ⟨t, rfl⟩ := r1
    cases ha : z.cps.all (· < 128) with
    | false => exact wpAny_pyIter_wide ha (pi_one (tk := s1.toks) I1 _ (turn_str _ z t "str_iterator" (.inr rfl)) ⟨_, Heap.get?_push_size _ rfl, rfl, rfl⟩ q)
    | true => exact wpAny_pyIter_ascii ha (pi_one (tk := s1.toks) I1 _ (turn_str _ z t "str_ascii_iterator" (.inl rfl)) ⟨_, Heap.get?_push_size _ rfl, rfl, rfl⟩ q)
/-- the walk yields what the interpreter reads -/
def CurOk (K : Frag) (mg : Str → Option Value) (r1 : List Addr) (H1 : Hp) (cur : Cur) (J : It) : Prop := ∀ r st H, Up r1 H1 r H → Sim K mg r st H → ∀ ds, cur st = some ds →
  (∀ (i : Nat) d, ds[i]? = some d → J.go i H ∧ ∀ x H2, J.yld i H x H2 → H2 = H ∧ Rel K r H d x) ∧ ∀ i, ds.length ≤ i → J.stop i H
theorem itl_ok {K : Frag} {a : Addr} {r : List Addr} {H : Hp} {ds : List D} {xs : List V} (h : SqL K H a xs) (hr : RelL K r H ds xs) : (∀ (i : Nat) d, ds[i]? = some d → (Itl K a).go i H ∧ ∀ x H2, (Itl K a).yld i H x H2 → H2 = H ∧ Rel K r H d x) ∧ ∀ i, ds.length ≤ i → (Itl K a).stop i H := by
  refine ⟨fun i d e => ?_, fun i hi => ⟨xs, h, by rw [← hr.length]; exact hi⟩⟩
  obtain ⟨v, h1, h2⟩ := hr.get e
  refine ⟨⟨xs, v, h, h1⟩, fun x H2 hy => ?_⟩
  obtain ⟨e1, e2⟩ := hy
  have := e2 xs h
  rw [h1] at this
  cases this
  exact ⟨e1, h2⟩
theorem itt_ok {K : Frag} {a : Addr} {r : List Addr} {H : Hp} {ds : List D} {xs : List V} (h : SqT K H a xs) (hr : RelL K r H ds xs) : (∀ (i : Nat) d, ds[i]? = some d → (Itt K a).go i H ∧ ∀ x H2, (Itt K a).yld i H x H2 → H2 = H ∧ Rel K r H d x) ∧ ∀ i, ds.length ≤ i → (Itt K a).stop i H := by
  refine ⟨fun i d e => ?_, fun i hi => ⟨xs, h, by rw [← hr.length]; exact hi⟩⟩
  obtain ⟨v, h1, h2⟩ := hr.get e
  refine ⟨⟨xs, v, h, h1⟩, fun x H2 hy => ?_⟩
  obtain ⟨e1, e2⟩ := hy
  have := e2 xs h
  rw [h1] at this
  cases this
  exact ⟨e1, h2⟩
theorem sqF_up {K : Frag} {r r' : List Addr} {H H' : Hp} {a : Addr} {xs : List V} (u : Up r H r' H') (h : SqF K H a xs) : SqF K H' a xs := u.sqT.f a xs h
/-- the walk of a value -/
theorem cur_seq {r : List Addr} {st : Store} {H0 H : Hp} {x : Ev} {v : V} {cur : Cur} (S : Sim X.K X.mg r st H) (hx : RelEv X.K r H0 H x v) (h : curOf x st = some cur) :
    (∃ a, v = .ref a ∧ ((∃ xs, SqL X.K H a xs ∧ CurOk X.K X.mg r H cur (Itl X.K a)) ∨ ∃ xs, SqT X.K H a xs ∧ CurOk X.K X.mg r H cur (Itt X.K a))) ∨ ∃ z, v = .str z ∧ CurOk X.K X.mg r H cur (Its z) := by
  cases x with
  | t ds =>
    cases (show some (fun _ => some ds) = some cur from h)
    obtain ⟨pa, xs, rfl, _, h3, h4, h5⟩ := hx
    refine .inl ⟨pa, rfl, .inl ⟨xs, .inl (.inl h4), fun r' st' H' u S' es e => ?_⟩⟩
    cases e
    exact itl_ok (.inl (.inl (u.keep _ _ h4 (.inl h3)))) (u.relL h5)
  | v d =>
    cases d with
    | tup ds =>
      cases (show some (fun _ => some ds) = some cur from h)
      unfold RelEv Rel at hx
      obtain ⟨pa, xs, rfl, h1, h2⟩ := hx
      refine .inl ⟨pa, rfl, .inr ⟨xs, .inl (.inl h1), fun r' st' H' u S' es e => ?_⟩⟩
      cases e
      exact itt_ok (.inl (.inl ((u.sqT (K := X.K)).p _ _ h1))) (u.relL h2)
    | ro ds =>
      cases (show some (fun _ => some ds) = some cur from h)
      unfold RelEv Rel at hx
      obtain ⟨pa, xs, rfl, h1, h2⟩ := hx
      refine .inl ⟨pa, rfl, .inl ⟨xs, h1.sq, fun r' st' H' u S' es e => ?_⟩⟩
      cases e
      exact itl_ok (sqF_up u h1).sq (u.relL h2)
    | str z =>
      cases (show some (fun _ => some (signs z)) = some cur from h)
      refine .inr ⟨z, rel_str hx, fun r' st' H' u S' es e => ?_⟩
      cases e
      have hl : (signs z).length = z.cps.size := by simp [signs]
      refine ⟨fun i d e => ?_, fun i hi => by show z.cps.size ≤ i; omega⟩
      have hi : i < z.cps.size := by rw [← hl]; exact (List.getElem?_eq_some_iff.mp e).1
      refine ⟨hi, fun x H2 hy => ?_⟩
      obtain ⟨e1, c, e2, e3⟩ := hy
      subst e3
      refine ⟨e1, ?_⟩
      unfold signs at e
      rw [List.getElem?_map, Array.getElem?_toList, e2] at e
      cases e
      unfold Rel; rfl
    | ref n =>
      unfold curOf at h
      simp only at h
      cases q : st[n]? with
      | none => rw [q] at h; cases h
      | some cc =>
        rw [q] at h
        cases cc with
        | ins _ _ => cases h
        | dic _ _ => cases h
        | lst ds =>
          cases h
          unfold RelEv Rel at hx
          obtain ⟨pa, h1, rfl⟩ := hx
          obtain ⟨xs, z1, z2⟩ := S.ok n pa _ h1 q
          refine .inl ⟨pa, rfl, .inl ⟨xs, .inl (.inl z1), fun r' st' H' u S' es e => ?_⟩⟩
          obtain ⟨pb, ys, e1, e2, e3⟩ := lstE_ok (H0 := H') (x := .v (.ref n)) (v := .ref pa) S' (by unfold RelEv Rel; exact ⟨pa, u.pre _ _ h1, rfl⟩) (show lstE st' (.v (.ref n)) = some es from e)
          cases e1
          exact itl_ok e2 e3
    | _ => cases h
theorem cur_rng {lo hi : Int} {r : List Addr} {H : Hp} : CurOk X.K X.mg r H (fun _ => some (rngL lo hi)) (Itr lo (hi - lo).toNat) := fun r' st' H' u S' es e => by
  cases e
  have hl : (rngL lo hi).length = (hi - lo).toNat := by simp [rngL]
  refine ⟨fun i d h => ?_, fun i h => by show (hi - lo).toNat ≤ i; omega⟩
  have hi' : i < (hi - lo).toNat := by rw [← hl]; exact (List.getElem?_eq_some_iff.mp h).1
  refine ⟨hi', fun x H2 hy => ?_⟩
  obtain ⟨e1, e2⟩ := hy
  subst e2
  refine ⟨e1, ?_⟩
  unfold rngL at h
  rw [List.getElem?_map, List.getElem?_range hi'] at h
  cases h
  unfold Rel; rfl
/-- the reading of what a for or a comprehension walks -/
def rdI (P : Prog) (go : Go) (X : Cx) (W : WX) (it : Wk) : TI := fun σ H R => ∃ r env st, EnvR X.K r H env σ ∧ Sim X.K X.mg r st H ∧ PostR X.K X.mg r H (evI P go it env st) (fun cur st1 r1 H1 => ∀ J, CurOk X.K X.mg r1 H1 cur J → R J H1) (Wat W σ)
theorem _root_.L2.PI.weak {X : Cx} {tg e : Expr} {t t' : TI} (h : PI X tg e t) (w : ∀ σ H Q, t' σ H Q → t σ H Q) : PI X tg e t' := ⟨fun pins s σ H Q I q => h.run pins s σ H Q I (w σ H Q q)⟩
theorem s_iter {tg : Expr} (ha : PE X a (RE P go X W a')) : PI X tg a (rdI P go X W (.seq a')) := (pi_seq ha).weak fun σ H R ⟨r, env, st, he, S, h⟩ => by
  unfold evI at h
  refine rd_of he S h.bind fun x st1 r1 H1 v u1 S1 hx h1 => ?_
  split at h1
  · rename_i cur e1
    have h2 := post_ok h1 S1
    rcases cur_seq S1 hx e1 with ⟨pa, rfl, q⟩ | ⟨z, rfl, q⟩
    · refine .inl ⟨pa, rfl, ?_⟩
      rcases q with ⟨xs, q1, q2⟩ | ⟨xs, q1, q2⟩
      · exact .inl ⟨xs, q1, h2 _ q2⟩
      · exact .inr ⟨xs, q1, h2 _ q2⟩
    · exact .inr ⟨z, rfl, h2 _ q⟩
  · exact h1.elim
/-- reversed(x), x a list -/
theorem cur_rev {r : List Addr} {st : Store} {H0 H : Hp} {x : Ev} {v : V} {cur : Cur} (S : Sim X.K X.mg r st H) (hx : RelEv X.K r H0 H x v) (h : curRev x st = some cur) : ∃ a xs, v = .ref a ∧ SqL X.K H a xs ∧ CurOk X.K X.mg r H cur (Itv X.K a xs.length) := by
  unfold curRev at h
  split at h
  · rename_i ds e
    cases h
    obtain ⟨a, xs, rfl, hq, hr⟩ := lstE_ok S hx e
    refine ⟨a, xs, rfl, hq, ?_⟩
    -- the list as it stands at some turn
    have main : ∀ r' (st' : Store) H' (es : List D) (ys : List V), SqL X.K H' a ys → RelL X.K r' H' es ys → es.length = ds.length → (∀ (i : Nat) d, es.reverse[i]? = some d → (Itv X.K a xs.length).go i H' ∧ ∀ x H2, (Itv X.K a xs.length).yld i H' x H2 → H2 = H' ∧ Rel X.K r' H' d x) ∧ ∀ i, es.reverse.length ≤ i → (Itv X.K a xs.length).stop i H' := by
      intro r' st' H' es ys hq' hr' hlen
      have l1 := hr'.length
      have l2 := hr.length
      refine ⟨fun i d e => ?_, fun i hi => by show xs.length ≤ i; rw [List.length_reverse] at hi; omega⟩
      have hi : i < es.length := by
        have := (List.getElem?_eq_some_iff.mp e).1
        simpa using this
      rw [List.getElem?_reverse hi] at e
      obtain ⟨u, g1, g2⟩ := hr'.get e
      have ei : xs.length - 1 - i = es.length - 1 - i := by omega
      refine ⟨⟨by omega, ys, u, hq', by rw [ei]; exact g1⟩, fun x H2 hy => ?_⟩
      obtain ⟨e1, e2⟩ := hy
      have := e2 ys hq'
      rw [ei, g1] at this
      cases this
      exact ⟨e1, g2⟩
    intro r' st' H' u S' es e2
    cases x with
    | t ds0 =>
      cases e
      cases e2
      obtain ⟨pa, zs, e3, _, h3, h4, h5⟩ := hx
      cases e3
      exact main r' st' H' ds _ (.inl (.inl (u.keep _ _ h4 (.inl h3)))) (u.relL h5) rfl
    | v d =>
      cases d with
      | ro ds0 =>
        cases e
        cases e2
        unfold RelEv Rel at hx
        obtain ⟨pa, zs, e3, h1, h2⟩ := hx
        cases e3
        exact main r' st' H' ds zs (sqF_up u h1).sq (u.relL h2) rfl
      | ref n =>
        have e2' : ((items st' (.v (.ref n))).bind fun es => if es.length = ds.length then some es.reverse else none) = some es := e2
        cases q : items st' (.v (.ref n)) with
        | none => rw [q] at e2'; cases e2'
        | some es0 =>
          rw [q] at e2'
          simp only [Option.bind_some] at e2'
          split at e2'
          · rename_i hl
            cases e2'
            obtain ⟨pb, ys, e3, h1, h2⟩ := lstE_ok (H0 := H') S' (x := .v (.ref n)) (v := .ref a) (u.rel hx) (show lstE st' (.v (.ref n)) = some es0 from q)
            cases e3
            exact main r' st' H' es0 ys h1 h2 hl
          · cases e2'
      | _ => cases e
  · cases h
theorem s_itRev (G : Good P go k X sc W) {tg : Expr} (hg : Gl X "reversed") (ha : PE X a (RE P go X W a')) (hs : isStar a = false) : PI X tg (.Call (.Name "reversed" p) [a] [] pos) (rdI P go X W (.rev a')) := by
  refine (pi_reversed hg (G.tab.bi _ (by simp [bNames])) (pa_cons ha pa_nil (star_cons hs)) (star_cons hs)).weak fun σ H R ⟨r, env, st, he, S, h⟩ => ?_
  unfold evI at h
  refine rd_of he S h.bind fun x st1 r1 H1 v u1 S1 hx h1 => ?_
  split at h1
  · rename_i cur e1
    obtain ⟨b, xs, rfl, hq, hc⟩ := cur_rev S1 hx e1
    exact ⟨b, xs, rfl, hq, post_ok h1 S1 _ hc⟩
  · exact h1.elim
theorem rngOk_of {i : Int} (h : rngOk i = true) : -(2 ^ 62) ≤ i ∧ i < 2 ^ 62 := by
  unfold rngOk at h
  simpa using h
theorem s_rng1 (G : Good P go k X sc W) {tg : Expr} (hg : Gl X "range") (hs : isStar a = false) (ha : PE X a (RE P go X W a')) : PI X tg (.Call (.Name "range" p) [a] [] pos) (rdI P go X W (.rng (.cons a' .nil))) :=
  (pi_range1 hg (G.tab.bi _ (by simp [bNames])) (s_cons hs ha s_nil) (star_cons hs)).weak fun σ H R ⟨r, env, st, he, S, h⟩ => by
  unfold evI at h
  refine rda_of he S h.bind fun xs st1 r1 H1 vs u1 S1 hx e1 h1 => ?_
  have el := evEs_len e1
  match xs, el, hx, h1 with
  | [x], _, hx, h1 =>
    obtain ⟨v, rfl, hv⟩ := one_of hx
    cases x with
    | t _ => exact h1.elim
    | v d =>
      cases d with
      | int j =>
        have h1' : PostR X.K X.mg r1 H1 (match (if rngOk j then some fun _ => some (rngL 0 j) else none : Option Cur) with | some cur => .ok cur st1 | none => .stuck) _ _ := h1
        split at h1'
        · rename_i cur e2
          split at e2
          · rename_i hj
            cases e2
            obtain ⟨z1, z2⟩ := rngOk_of hj
            rw [rel_int hv]
            refine ⟨j, rfl, z1, z2, post_ok h1' S1 _ ?_⟩
            have := cur_rng (X := X) (lo := 0) (hi := j) (r := r1) (H := H1)
            simpa using this
          · cases e2
        · exact h1'.elim
      | _ => exact h1.elim
theorem s_rng2 (G : Good P go k X sc W) {tg : Expr} (hg : Gl X "range") (hs : isStar a = false) (hs2 : isStar b = false) (ha : PE X a (RE P go X W a')) (hb : PE X b (RE P go X W b')) : PI X tg (.Call (.Name "range" p) [a, b] [] pos) (rdI P go X W (.rng (.cons a' (.cons b' .nil)))) :=
  (pi_range2 hg (G.tab.bi _ (by simp [bNames])) (s_cons hs ha (s_cons hs2 hb s_nil)) ((star_cons hs).trans (by rw [star_cons hs2]; rfl)) ((star_cons hs2).trans rfl)).weak fun σ H R ⟨r, env, st, he, S, h⟩ => by
  unfold evI at h
  refine rda_of he S h.bind fun xs st1 r1 H1 vs u1 S1 hx e1 h1 => ?_
  have el := evEs_len e1
  match xs, el, hx, h1 with
  | [x, y], _, hx, h1 =>
    obtain ⟨v, w, rfl, hv, hw⟩ := two_of hx
    cases x with
    | t _ => exact h1.elim
    | v d =>
      cases y with
      | t _ => cases d <;> exact h1.elim
      | v d2 =>
        cases d with
        | int i =>
          cases d2 with
          | int j =>
            have h1' : PostR X.K X.mg r1 H1 (match (if rngOk i && rngOk j then some fun _ => some (rngL i j) else none : Option Cur) with | some cur => .ok cur st1 | none => .stuck) _ _ := h1
            split at h1'
            · rename_i cur e2
              split at e2
              · rename_i hj
                cases e2
                obtain ⟨hi, hj⟩ := Bool.and_eq_true_iff.mp hj
                obtain ⟨z1, z2⟩ := rngOk_of hi
                obtain ⟨z3, z4⟩ := rngOk_of hj
                rw [rel_int hv, rel_int hw]
                exact ⟨i, j, rfl, ⟨z1, z2, z3, z4⟩, post_ok h1' S1 _ cur_rng⟩
              · cases e2
            · exact h1'.elim
          | _ => exact h1.elim
        | _ => cases d2 <;> exact h1.elim
theorem _root_.L2.PI.never {X : Cx} {tg e : Expr} {t : TI} (w : ∀ σ H Q, ¬ t σ H Q) : PI X tg e t := ⟨fun pins s σ H Q I q => (w σ H Q q).elim⟩
theorem cur_rngC {lo c : Int} {n : Nat} {r : List Addr} {H : Hp} : CurOk X.K X.mg r H (fun _ => some (rngC lo c n)) (Itc lo c n) := fun r' st' H' u S' es e => by
  cases e
  have hl : (rngC lo c n).length = n := by simp [rngC]
  refine ⟨fun i d h => ?_, fun i h => by show n ≤ i; omega⟩
  have hi' : i < n := by rw [← hl]; exact (List.getElem?_eq_some_iff.mp h).1
  refine ⟨hi', fun x H2 hy => ?_⟩
  obtain ⟨e1, e2⟩ := hy
  subst e2
  refine ⟨e1, ?_⟩
  unfold rngC at h
  rw [List.getElem?_map, List.getElem?_range hi'] at h
  cases h
  unfold Rel; rfl
theorem s_rng3 (G : Good P go k X sc W) {tg : Expr} (hg : Gl X "range") (hs : isStar a = false) (hs2 : isStar b = false) (hs3 : isStar c = false) (ha : PE X a (RE P go X W a')) (hb : PE X b (RE P go X W b')) (hc : PE X c (RE P go X W c')) : PI X tg (.Call (.Name "range" p) [a, b, c] [] pos) (rdI P go X W (.rng (.cons a' (.cons b' (.cons c' .nil))))) :=
  (pi_range3 hg (G.tab.bi _ (by simp [bNames])) (s_cons hs ha (s_cons hs2 hb (s_cons hs3 hc s_nil))) (star_cons hs) (by
    rw [star_cons hs2, star_cons hs3]; rfl)).weak fun σ H R ⟨r, env, st, he, S, h⟩ => by
  unfold evI at h
  refine rda_of he S h.bind fun xs st1 r1 H1 vs u1 S1 hx e1 h1 => ?_
  have el := evEs_len e1
  match xs, el, hx, h1 with
  | [x, y, z], _, hx, h1 =>
    obtain ⟨v, us, rfl, hv, _, hx⟩ := hx
    obtain ⟨w, q, rfl, hw, hq⟩ := two_of hx
    cases x with
    | t _ => exact h1.elim
    | v d =>
      cases y with
      | t _ => cases d <;> exact h1.elim
      | v d2 =>
        cases z with
        | t _ => cases d <;> cases d2 <;> exact h1.elim
        | v d3 =>
          cases d with
          | int i =>
            cases d2 with
            | int j =>
              cases d3 with
              | int c =>
                have h1' : PostR X.K X.mg r1 H1 (match (if rgcOk i j c then some fun _ => some (rngC i c (Builtin.Range.rangeSize i j c).toNat) else none : Option Cur) with | some cur => .ok cur st1 | none => .stuck) _ _ := h1
                split at h1'
                · rename_i cur e2
                  split at e2
                  · rename_i hj
                    cases e2
                    unfold rgcOk at hj
                    simp only [Bool.and_eq_true, decide_eq_true_eq] at hj
                    obtain ⟨c0, c1, c2, c3⟩ := hj
                    rw [rel_int hv, rel_int hw, rel_int hq]
                    exact ⟨i, j, c, _, rfl, ⟨c0, c1, c2, by omega⟩, post_ok h1' S1 _ cur_rngC⟩
                  · cases e2
                · exact h1'.elim
              | _ => exact h1.elim
            | _ => cases d3 <;> exact h1.elim
          | _ => cases d2 <;> cases d3 <;> exact h1.elim
end
end SI

set_option maxHeartbeats 2000000
/-! SI 12: comprehensions, tests, all expressions. -/
namespace SI
open PySem L2 PySem.Spec PyProof.Rows
section
variable {P : Prog} {go : Go} {k : Nat} {X : Cx} {sc : Scope} {W : WX} {a b c e o : Expr} {a' b' c' e' o' : E} {es : List Expr} {es' : Es} {pos p apos : Pos}
theorem wipe_get : ∀ (vs : List Nat) (σ : L2.St) (j : Nat), (wipe σ vs)[j]? = if j ∈ vs then (if j < σ.length then some none else none) else σ[j]?
  | [], σ, j => by simp [wipe]
  | v :: vs, σ, j => by
    unfold wipe
    rw [List.getElem?_set]
    by_cases h : v = j
    · subst h
      simp [wipe_length]
    · have h2 : ¬ j = v := fun q => h q.symm
      rw [if_neg h, wipe_get vs σ j]
      simp [h2]
theorem wipe_set {vs : List Nat} {σ : L2.St} {i : Nat} {x : Option V} (h : i ∈ vs) : wipe (σ.set i x) vs = wipe σ vs := by
  apply List.ext_getElem?
  intro j
  rw [wipe_get, wipe_get]
  by_cases hj : j ∈ vs
  · simp [hj]
  · have : i ≠ j := fun q => hj (q ▸ h)
    simp [hj, List.getElem?_set_ne this]
theorem wipe_wipe {vs : List Nat} {σ : L2.St} : wipe (wipe σ vs) vs = wipe σ vs := by
  apply List.ext_getElem?
  intro j
  rw [wipe_get, wipe_get]
  by_cases hj : j ∈ vs <;> simp [hj, wipe_length]
/-- a target within the own names: what it stores is wiped again; other slots stand -/
theorem gNs_wipe {K : Frag} {r : List Addr} {H : Hp} {vs : List Nat} {Q : L2.St → Hp → Prop} : ∀ {is : List Nat} {ds : List D} {xs : List V} {env env' : Env} {σ : L2.St} {g : List Nat}, (∀ i ∈ is, i ∈ vs) → setAll is ds env = some env' → RelL K r H ds xs → env.length = σ.length →
    (∀ (i : Nat) d, i ∉ is → env[i]? = some (some d) → i ∈ g → ∃ v, σ[i]? = some (some v) ∧ Rel K r H d v) →
    (∀ σ', env'.length = σ'.length → wipe σ' vs = wipe σ vs → (∀ (i : Nat) d, i ∈ g → env'[i]? = some (some d) → ∃ v, σ'[i]? = some (some v) ∧ Rel K r H d v) → Q σ' H) → gNs is xs σ H Q
  | [], ds, xs, env, env', σ, g, hi, h, hr, hl, he, q => by
    cases ds with
    | nil => cases h; exact ⟨hr.unnil, q σ hl rfl fun i d hg e => he i d (by simp) e hg⟩
    | cons _ _ => cases h
  | i :: is, ds, xs, env, env', σ, g, hi, h, hr, hl, he, q => by
    cases ds with
    | nil => cases h
    | cons d ds =>
      obtain ⟨v, vs', rfl, h1, h2⟩ := hr.uncons
      refine ⟨v, vs', rfl, ?_⟩
      refine gNs_wipe (g := g) (fun j hj => hi j (by simp [hj])) (show setAll is ds (env.set i (some d)) = some env' from h) h2 (by simp [hl]) (fun j d' hn e hg => ?_) fun σ' h3 h4 h5 => q σ' h3 (h4.trans (wipe_set (hi i (by simp)))) h5
      by_cases hij : i = j
      · subst hij
        have hlt : i < env.length := by
          have := (List.getElem?_eq_some_iff.mp e).1
          simpa using this
        rw [List.getElem?_set_self hlt] at e
        cases e
        exact ⟨v, by rw [List.getElem?_set_self (by omega)], h1⟩
      · rw [List.getElem?_set_ne hij] at e ⊢
        exact he j d' (by simp [hn, Ne.symm hij]) e hg
theorem bindG_wipe {K : Frag} {r : List Addr} {H : Hp} {vs : List Nat} {Q : L2.St → Hp → Prop} {g : List Nat} {one : Bool} {d : D} {v : V} {env env' : Env} {σ : L2.St} (hv : ∀ i, i ∈ g ↔ i ∈ vs) (h : bindG g one d env = some env') (hd : Rel K r H d v) (he : EnvR K r H env σ)
    (q : ∀ σ', wipe σ' vs = wipe σ vs → EnvR K r H env' σ' → Q σ' H) : gT K g one v (wipe σ vs) H Q := by
  have base : ∀ (i : Nat) d, i ∉ g → env[i]? = some (some d) → ∃ v, (wipe σ vs)[i]? = some (some v) ∧ Rel K r H d v := fun i d hi e => by
    obtain ⟨v, h1, h2⟩ := he.2 i d e
    refine ⟨v, ?_, h2⟩
    rw [wipe_get, if_neg (fun z => hi ((hv i).mpr z))]
    exact h1
  have fin : ∀ σ', env'.length = σ'.length → wipe σ' vs = wipe (wipe σ vs) vs → (∀ (i : Nat) d, env'[i]? = some (some d) → ∃ v, σ'[i]? = some (some v) ∧ Rel K r H d v) → Q σ' H := fun σ' h1 h2 h3 => q σ' (h2.trans wipe_wipe) ⟨h1, h3⟩
  have go' : ∀ ds xs, setAll g ds env = some env' → RelL K r H ds xs → gNs g xs (wipe σ vs) H Q := fun ds xs h1 h2 => by
    -- the other slots by what stood ahead
    have : ∀ (is : List Nat) (ds : List D) (xs : List V) (env1 : Env) (σ1 : L2.St), (∀ i ∈ is, i ∈ vs) → setAll is ds env1 = some env' → RelL K r H ds xs → env1.length = σ1.length → (∀ (i : Nat) d, i ∉ is → env1[i]? = some (some d) → ∃ v, σ1[i]? = some (some v) ∧ Rel K r H d v) → wipe σ1 vs = wipe (wipe σ vs) vs → gNs is xs σ1 H Q := by
      intro is
      induction is with
      | nil =>
        intro ds xs env1 σ1 _ h3 h4 h5 h6 h7
        cases ds with
        | nil => cases h3; exact ⟨h4.unnil, fin σ1 h5 h7 fun i d e => h6 i d (by simp) e⟩
        | cons _ _ => cases h3
      | cons i is ih =>
        intro ds xs env1 σ1 h2 h3 h4 h5 h6 h7
        cases ds with
        | nil => cases h3
        | cons d ds =>
          obtain ⟨w, ws, rfl, z1, z2⟩ := h4.uncons
          refine ⟨w, ws, rfl, ih ds ws (env1.set i (some d)) (σ1.set i (some w)) (fun j hj => h2 j (by simp [hj])) h3 z2 (by simp [h5]) (fun j d' hn e => ?_) ((wipe_set (h2 i (by simp))).trans h7)⟩
          by_cases hij : i = j
          · subst hij
            have hlt : i < env1.length := by
              have := (List.getElem?_eq_some_iff.mp e).1
              simpa using this
            rw [List.getElem?_set_self hlt] at e
            cases e
            exact ⟨w, by rw [List.getElem?_set_self (by omega)], z1⟩
          · rw [List.getElem?_set_ne hij] at e ⊢
            exact h6 j d' (by simp [hn, Ne.symm hij]) e
    exact this g ds xs env (wipe σ vs) (fun i hi => (hv i).mp hi) h1 h2 (by rw [wipe_length]; exact he.1) base rfl
  cases one with
  | true =>
    cases g with
    | nil => cases d <;> cases h
    | cons i is =>
      cases is with
      | nil =>
        have h' : env.set i (some d) = env' := by cases d <;> (cases h; rfl)
        have z := go' [d] [v] (by rw [← h']; rfl) (relL_cons hd relL_nil)
        obtain ⟨w, ws, e1, z⟩ := z
        cases e1
        exact z.2
      | cons _ _ => cases d <;> cases h
  | false =>
    cases d with
    | tup ds =>
      have h' : setAll g ds env = some env' := by
        cases g with
        | nil => exact h
        | cons i is => cases is <;> exact h
      unfold Rel at hd
      obtain ⟨pa, xs, rfl, h1, h2⟩ := hd
      have go2 : gTup K g.length (gNs g) (.ref pa) (wipe σ vs) H Q := ⟨pa, xs, rfl, .inl (.inl h1), by rw [← h2.length, setAll_len h'], go' ds xs h' h2⟩
      cases g with
      | nil => exact go2
      | cons i is => cases is <;> exact go2
    | _ => cases g with
      | nil => cases h
      | cons i is => cases is <;> cases h
theorem Sim.offw {K : Frag} {mg : Str → Option Value} {r : List Addr} {st : Store} {H : Hp} {D : Addr} {o o' : HO} (S : Sim K mg r st H) (off : Off r D) (h : H D = some o) (nf : ¬ Fixed o) : Sim K mg r st (upd H D o') ∧ Tups K H (upd H D o') := by
  have t : Tups K H (upd H D o') := tups_of fun b u e f => by
    rw [upd_ne]; exact e
    rintro rfl
    rw [h] at e; cases e; exact nf f
  refine ⟨⟨S.len, S.inj, fun n a cc h1 h2 => ?_⟩, t⟩
  have ne : a ≠ D := fun z => off n (by rw [← z]; exact h1)
  exact (S.ok n a cc h1 h2).keep (Ext.refl r) t fun u z => by rw [upd_ne ne]; exact z
theorem Up.offw {r0 r : List Addr} {H0 H : Hp} {D : Addr} {o' : HO} (u : Up r0 H0 r H) (h0 : H0 D = none) : Up r0 H0 r (upd H D o') where
  pre := u.pre
  keep := fun a o h f => by
    rw [upd_ne (ne_of_none h h0)]
    exact u.keep a o h f
  fresh := u.fresh
  dom := fun a e => by
    by_cases hb : a = D
    · rw [hb]; exact h0
    · rw [upd_ne hb] at e; exact u.dom a e
/-- one turn of a comprehension: None where the test says no -/
def lcF (P : Prog) (go : Go) (g : List Nat) (one : Bool) (c : Option E) (e : E) (env : Env) : D → Store → R (Option D) := fun d s => match bindG g one d env with
  | none => .stuck
  | some env' => (match c with
    | none => (evE P go e env' s).bind fun x s2 => (asV x s2).bind fun d s3 => .ok (some d) s3
    | some c => (evE P go c env' s).bind fun x s1 => (match x with
      | .v (.bl b) => if b then (evE P go e env' s1).bind fun x s2 => (asV x s2).bind fun d s3 => .ok (some d) s3 else .ok none s1
      | _ => .stuck))
theorem evE_lc {g : List Nat} {one : Bool} {it : Wk} {c : Option E} {e : E} {env : Env} {st : Store} : evE P go (.lc g one it c e) env st = (evI P go it env st).bind fun cur st1 => (lcGo cur (lcF P go g one c e env) (turns cur st1) 0 [] st1).bind fun ys st2 => .ok (.t ys) st2 := by
  unfold evE lcF
  rfl
theorem evE_evT : ∀ (c : E) (env : Env) (st : Store) (b : Bool) (st' : Store), evE P go c env st = .ok (.v (.bl b)) st' → evT P go c env st = .ok b st'
  | .and a c, env, st, b, st', h => by
    unfold evE at h
    unfold evT
    obtain ⟨x, st1, h1, h⟩ := bind_ok h
    split at h
    · rename_i cc
      rw [evE_evT a env st cc st1 h1]
      cases cc with
      | true => exact evE_evT c env st1 b st' h
      | false => cases h; rfl
    · cases h
  | .or a c, env, st, b, st', h => by
    unfold evE at h
    unfold evT
    obtain ⟨x, st1, h1, h⟩ := bind_ok h
    split at h
    · rename_i cc
      rw [evE_evT a env st cc st1 h1]
      cases cc with
      | false => exact evE_evT c env st1 b st' h
      | true => cases h; rfl
    · cases h
  | .not a, env, st, b, st', h => by
    unfold evE at h
    unfold evT
    obtain ⟨x, st1, h1, h⟩ := bind_ok h
    split at h
    · rename_i cc
      rw [evE_evT a env st cc st1 h1]
      cases h; rfl
    · cases h
  | .int _, env, st, b, st', h => by unfold evT; rw [h]; rfl
  | .bl _, env, st, b, st', h => by unfold evT; rw [h]; rfl
  | .non, env, st, b, st', h => by unfold evT; rw [h]; rfl
  | .str _, env, st, b, st', h => by unfold evT; rw [h]; rfl
  | .loc _, env, st, b, st', h => by unfold evT; rw [h]; rfl
  | .glo _, env, st, b, st', h => by unfold evT; rw [h]; rfl
  | .bin _ _ _, env, st, b, st', h => by unfold evT; rw [h]; rfl
  | .neg _, env, st, b, st', h => by unfold evT; rw [h]; rfl
  | .cmp _ _ _, env, st, b, st', h => by unfold evT; rw [h]; rfl
  | .chain _ _ _ _ _, env, st, b, st', h => by unfold evT; rw [h]; rfl
  | .tup _, env, st, b, st', h => by unfold evT; rw [h]; rfl
  | .lst _, env, st, b, st', h => by unfold evT; rw [h]; rfl
  | .idx _ _, env, st, b, st', h => by unfold evT; rw [h]; rfl
  | .sl _ _ _, env, st, b, st', h => by unfold evT; rw [h]; rfl
  | .bi _ _, env, st, b, st', h => by unfold evT; rw [h]; rfl
  | .isi _ _ _, env, st, b, st', h => by unfold evT; rw [h]; rfl
  | .call _ _, env, st, b, st', h => by unfold evT; rw [h]; rfl
  | .mk _ _, env, st, b, st', h => by unfold evT; rw [h]; rfl
  | .bm _ _ _, env, st, b, st', h => by unfold evT; rw [h]; rfl
  | .meth _ _ _, env, st, b, st', h => by unfold evT; rw [h]; rfl
  | .fld _ _, env, st, b, st', h => by unfold evT; rw [h]; rfl
  | .lc _ _ _ _ _, env, st, b, st', h => by unfold evT; rw [h]; rfl
  | .dct _ _, env, st, b, st', h => by unfold evT; rw [h]; rfl
  | .dcp _, env, st, b, st', h => by unfold evT; rw [h]; rfl
  | .bad, env, st, b, st', h => by unfold evT; rw [h]; rfl
end
end SI

set_option maxHeartbeats 2000000
/-! SI 13: comprehensions. -/
namespace SI
open PySem L2 PySem.Spec PyProof.Rows
section
variable {P : Prog} {go : Go} {k : Nat} {X : Cx} {sc : Scope} {W : WX}
def CondIs (P : Prog) (go : Go) (c : Option E) (env : Env) (s : Store) (b : Bool) (s1 : Store) : Prop := match c with
  | none => b = true ∧ s1 = s
  | some c => evT P go c env s = .ok b s1
theorem asV_bind {x : Ev} {s s' : Store} {z : Option D} (h : (asV x s).bind (fun d s3 => R.ok (some d) s3) = .ok z s') : z = some (mat x s).1 ∧ s' = (mat x s).2 := by
  unfold asV at h
  cases h
  exact ⟨rfl, rfl⟩
theorem lcF_sh {g : List Nat} {one : Bool} {c : Option E} {e : E} {env : Env} {d : D} {s s' : Store} {z : Option D} (h : lcF P go g one c e env d s = .ok z s') : ∃ env' b s1, bindG g one d env = some env' ∧ CondIs P go c env' s b s1 ∧
    ((b = true ∧ ∃ x s2, evE P go e env' s1 = .ok x s2 ∧ z = some (mat x s2).1 ∧ s' = (mat x s2).2) ∨ (b = false ∧ z = none ∧ s' = s1)) := by
  unfold lcF at h
  split at h
  · cases h
  · rename_i env' hb
    cases c with
    | none =>
      obtain ⟨x, s2, h1, h2⟩ := bind_ok h
      obtain ⟨e1, e2⟩ := asV_bind h2
      exact ⟨env', true, s, hb, ⟨rfl, rfl⟩, .inl ⟨rfl, x, s2, h1, e1, e2⟩⟩
    | some c =>
      obtain ⟨x, s1, h1, h2⟩ := bind_ok h
      split at h2
      · rename_i b
        refine ⟨env', b, s1, hb, evE_evT c env' s b s1 h1, ?_⟩
        cases b with
        | true =>
          obtain ⟨y, s2, h3, h4⟩ := bind_ok h2
          obtain ⟨e1, e2⟩ := asV_bind h4
          exact .inl ⟨rfl, y, s2, h3, e1, e2⟩
        | false => cases h2; exact .inr ⟨rfl, rfl, rfl⟩
      · cases h2
theorem lcGo_noex {cur : Cur} {f : D → Store → R (Option D)} : ∀ {m i : Nat} {acc : List D} {st : Store} {c : Str} {fs : List (Str × D)} {st' : Store}, lcGo cur f m i acc st ≠ .ex c fs st'
  | 0, i, acc, st, c, fs, st', h => by
    unfold lcGo at h
    split at h
    · split at h <;> cases h
    · cases h
  | m + 1, i, acc, st, c, fs, st', h => by
    unfold lcGo at h
    split at h
    · split at h
      · cases h
      · split at h
        · split at h
          · exact lcGo_noex h
          · cases h
        · exact lcGo_noex h
        · cases h
    · cases h
theorem post_triv {α : Type} {x : R α} {a : α} {s : Store} {K : Frag} {mg : Str → Option Value} {r : List Addr} {H : Hp} {E : XK} (h : x = .ok a s) : PostR K mg r H x (fun a' s' _ _ => a' = a ∧ s' = s) E := by
  subst h
  exact fun _ _ _ _ => ⟨rfl, rfl⟩
theorem own_is {own : List (Str × Nat)} {g : List Nat} (h : ownIs own g = true) : ∀ i, i ∈ g ↔ i ∈ own.map (·.2) := fun i => by
  unfold ownIs at h
  obtain ⟨h1, h2⟩ := Bool.and_eq_true_iff.mp h
  constructor
  · intro hi
    have := List.all_eq_true.mp h2 i hi
    obtain ⟨y, hy, e⟩ := List.any_eq_true.mp this
    exact List.mem_map.mpr ⟨y, hy, by simpa using e⟩
  · intro hi
    obtain ⟨y, hy, rfl⟩ := List.mem_map.mp hi
    have := List.all_eq_true.mp h1 y hy
    simpa using this
theorem lc_reads {vs g : List Nat} {one : Bool} {c' : Option E} {it' : Wk} {e' : E} {tt : TT} {te : TE} (hv : ∀ i, i ∈ g ↔ i ∈ vs)
    (HT : ∀ {σ2 : L2.St} {H2 : Hp} {r2 : List Addr} {st2 : Store} {env2 : Env} {b : Bool} {st3 : Store} {Qb : Bool → Hp → Prop}, EnvR X.K r2 H2 env2 σ2 → Sim X.K X.mg r2 st2 H2 → CondIs P go c' env2 st2 b st3 → (∀ r3 H3, Up r2 H2 r3 H3 → Sim X.K X.mg r3 st3 H3 → Qb b H3) → tt σ2 H2 Qb)
    (HE : ∀ σ H Q, rdE P go X.K X.mg (fun _ _ _ _ => False) e' σ H Q → te σ H Q) :
    ∀ σ H Q, RE P go X W (.lc g one it' c' e') σ H Q → tLc (rdI P go X W it') (gT X.K g one) tt te vs σ H Q := by
  rintro σ H Q ⟨r, env, st, he, S, h⟩
  rw [evE_lc] at h
  refine ⟨r, env, st, he, S, (PostR.bind0 h).mono fun cur st1 r1 H1 e1 u1 S1 h1 J hJ D hD => ?_⟩
  -- the whole run ends well
  cases ql : lcGo cur (lcF P go g one c' e' env) (turns cur st1) 0 [] st1 with
  | stuck => rw [ql] at h1; exact h1.elim
  | ex _ _ _ => exact absurd ql lcGo_noex
  | ok ys stE =>
    rw [ql] at h1
    have fin : ∀ r' H', Up r H r' H' → Sim X.K X.mg r' stE H' → OkE X.K H Q (.t ys) stE r' H' := h1
    refine ⟨fun i m H' => ∃ r' st' acc accV, Up r1 H1 r' H' ∧ Sim X.K X.mg r' st' H' ∧ Off r' D ∧ H' D = some (.lst accV) ∧ RelL X.K r' H' acc accV ∧ lcGo cur (lcF P go g one c' e' env) m i acc st' = .ok ys stE,
      ⟨turns cur st1, r1, st1, [], [], Up.new hD, S1.new hD, S1.off hD, upd_same, relL_nil, ql⟩, ?_⟩
    rintro i m H' ⟨r', st', acc, accV, u, S', off, hDl, hr, hg⟩
    have stop : ∀ ds, cur st' = some ds → ds.length ≤ i → acc = ys → st' = stE → J.stop i H' ∧ Q (.ref D) H' := fun ds ec hl ea es => by
      subst ea es
      exact ⟨(hJ r' st' H' u S' ds ec).2 i hl, fin r' H' (u1.trans u) S' _ ⟨D, accV, rfl, u1.dom D hD, off, hDl, hr⟩⟩
    cases m with
    | zero =>
      unfold lcGo at hg
      split at hg
      · rename_i ds ec
        split at hg
        · rename_i hl
          cases hg
          exact .inl (stop ds ec hl rfl rfl)
        · cases hg
      · cases hg
    | succ m =>
      unfold lcGo at hg
      split at hg
      · rename_i ds ec
        split at hg
        · rename_i en
          cases hg
          exact .inl (stop ds ec (List.getElem?_eq_none_iff.mp en) rfl rfl)
        · rename_i d ed
          obtain ⟨hgo, hy⟩ := (hJ r' st' H' u S' ds ec).1 i d ed
          refine .inr ⟨hgo, _, fun H'' w => ⟨m, Nat.lt_succ_self m, w⟩, fun x H'' hyl => ?_⟩
          obtain ⟨rfl, hd⟩ := hy x H'' hyl
          -- what the turn did
          have key : ∀ z s', lcF P go g one c' e' env d st' = .ok z s' → (∀ y, z = some y → acc.length < lim ∧ lcGo cur (lcF P go g one c' e' env) m (i + 1) (acc ++ [y]) s' = .ok ys stE) → (z = none → lcGo cur (lcF P go g one c' e' env) m (i + 1) acc s' = .ok ys stE) →
              gT X.K g one x (wipe σ vs) H'' fun σ2 H2 => wipe σ2 vs = wipe σ vs ∧ tt σ2 H2 fun b H3 =>
                if b = true then te σ2 H3 fun y H4 => ∃ acc, H4 D = some (.lst acc) ∧ acc.length < sizeLine ∧ ∃ r' st' acc2 accV, Up r1 H1 r' (upd H4 D (.lst (acc ++ [y]))) ∧ Sim X.K X.mg r' st' (upd H4 D (.lst (acc ++ [y]))) ∧ Off r' D ∧ upd H4 D (.lst (acc ++ [y])) D = some (.lst accV) ∧ RelL X.K r' (upd H4 D (.lst (acc ++ [y]))) acc2 accV ∧ lcGo cur (lcF P go g one c' e' env) m (i + 1) acc2 st' = .ok ys stE
                else ∃ r' st' acc2 accV, Up r1 H1 r' H3 ∧ Sim X.K X.mg r' st' H3 ∧ Off r' D ∧ H3 D = some (.lst accV) ∧ RelL X.K r' H3 acc2 accV ∧ lcGo cur (lcF P go g one c' e' env) m (i + 1) acc2 st' = .ok ys stE := by
            intro z s' hz hsome hnone
            obtain ⟨env', b, s1, hbg, hc, hres⟩ := lcF_sh hz
            refine bindG_wipe hv hbg hd (he.up (u1.trans u)) fun σ2 hw hE => ⟨hw, ?_⟩
            refine HT hE S' hc fun r3 H3 u3 S3 => ?_
            have hD3 : H3 D = some (.lst accV) := u3.keep _ _ hDl (.inl off)
            have off3 : Off r3 D := u3.off hDl off
            rcases hres with ⟨rfl, x2, s2, he2, rfl, rfl⟩ | ⟨rfl, rfl, rfl⟩
            · refine iteT (HE _ _ _ ?_)
              obtain ⟨hlen, hrest⟩ := hsome _ rfl
              refine rd_of (hE.up u3) S3 (post_triv he2) fun x3 s3 r4 H4 v u4 S4 hx3 hq => ?_
              obtain ⟨rfl, rfl⟩ := hq
              obtain ⟨r5, U5, E5, S5, R5, O5⟩ := mat_ok u4 S4 hx3
              have hD4 : H4 D = some (.lst accV) := u4.keep _ _ hD3 (.inl off3)
              have off5 : Off r5 D := O5 D (u4.off hD3 off3) fun ds e1 e2 => by
                subst e1
                obtain ⟨pa, zs, rfl, z2, _⟩ := hx3
                cases e2
                rw [hD3] at z2; cases z2
              obtain ⟨S6, t6⟩ := S5.offw (o' := .lst (accV ++ [v])) off5 hD4 (fun f => f)
              have hl := hr.length
              refine ⟨accV, hD4, by rw [← hl, sizeLine_eq]; unfold lim at hlen; omega, r5, _, acc ++ [(mat x3 s3).1], accV ++ [v], ((u.trans u3).trans U5).offw hD, S6, off5, upd_same, ?_, hrest⟩
              exact (RelL.mono (Ext.refl r5) t6 (U5.relL (u3.relL hr))).append (relL_cons (Rel.mono (Ext.refl r5) t6 R5) relL_nil)
            · exact iteF ⟨r3, _, acc, accV, u.trans u3, S3, off3, hD3, u3.relL hr, hnone rfl⟩
          split at hg
          · rename_i y s' hz
            split at hg
            · rename_i hlen
              exact key _ _ hz (fun y' e => by cases e; exact ⟨hlen, hg⟩) fun e => by cases e
            · cases hg
          · rename_i s' hz
            exact key _ _ hz (fun y' e => by cases e) fun _ => hg
          · cases hg
      · cases hg
theorem fold_no {it : Expr} {env : PySem.Env} (h : isSet it = false) : ∀ x, foldedSetIterable it env x = pure x := fun x => by
  cases it <;> first | rfl | (cases h)
theorem s_lcN (G : Good P go k X sc W) {cs : Scope} {tg it elt : Expr} {g : List Nat} {one : Bool} {it' : Wk} {e' : E} {pos : Pos} (hb : blkC X.N sc cs (ownOf X.N cs) = true) (ho : ownIs (ownOf X.N cs) g = true) (ht : tgOf X.N cs tg = some (g, one)) (hs : isSet it = false)
    (hi : PI X tg it (rdI P go X W it')) (hE : ∀ X' : Cx, Good P go k X' cs (fun _ _ _ _ => False) → X'.N = X.N → X'.K = X.K → X'.mg = X.mg → PE X' elt (RE P go X' (fun _ _ _ _ => False) e')) :
    PE X (.ListComp elt [⟨tg, it, [], 0⟩] cs pos) (RE P go X W (.lc g one it' none e')) := by
  refine (pe_lc G.calm G.nd hi (G.blkOk hb) (fun s H C cl fp => ?_) (fun s H C cl fp => pts_nil) (fun s H C cl fp => ?_) (fold_no hs)).weak (lc_reads (own_is ho) (fun {σ2 H2 r2 st2 env2 b st3 Qb} h1 h2 h3 h4 => ?_) fun σ H Q h => h)
  · exact pg_tg (X := X.blk s H cs (compEnvC cs cl C X.env) fp) G.blk ht
  · exact hE (X.blk s H cs (compEnvC cs cl C X.env) fp) G.blk rfl rfl rfl
  · obtain ⟨rfl, rfl⟩ := h3
    exact h4 r2 H2 (Up.refl r2 H2) h2
theorem s_lcS (G : Good P go k X sc W) {cs : Scope} {tg it elt c : Expr} {g : List Nat} {one : Bool} {it' : Wk} {e' c' : E} {pos : Pos} (hb : blkC X.N sc cs (ownOf X.N cs) = true) (ho : ownIs (ownOf X.N cs) g = true) (ht : tgOf X.N cs tg = some (g, one)) (hs : isSet it = false)
    (hi : PI X tg it (rdI P go X W it')) (hE : ∀ X' : Cx, Good P go k X' cs (fun _ _ _ _ => False) → X'.N = X.N → X'.K = X.K → X'.mg = X.mg → PE X' elt (RE P go X' (fun _ _ _ _ => False) e') ∧ PT X' c (RT P go X' (fun _ _ _ _ => False) c')) :
    PE X (.ListComp elt [⟨tg, it, [c], 0⟩] cs pos) (RE P go X W (.lc g one it' (some c') e')) := by
  refine (pe_lc (tt := RT P go X (fun _ _ _ _ => False) c') G.calm G.nd hi (G.blkOk hb) (fun s H C cl fp => ?_) (fun s H C cl fp => pts_one ?_) (fun s H C cl fp => ?_) (fold_no hs)).weak (lc_reads (own_is ho) (fun {σ2 H2 r2 st2 env2 b st3 Qb} h1 h2 h3 h4 => ?_) fun σ H Q h => h)
  · exact pg_tg (X := X.blk s H cs (compEnvC cs cl C X.env) fp) G.blk ht
  · exact (hE (X.blk s H cs (compEnvC cs cl C X.env) fp) G.blk rfl rfl rfl).2
  · exact (hE (X.blk s H cs (compEnvC cs cl C X.env) fp) G.blk rfl rfl rfl).1
  · have h3' : evT P go c' env2 st2 = .ok b st3 := h3
    exact ⟨r2, env2, st2, h1, h2, by rw [h3']; exact fun r' H' u s => h4 r' H' u s⟩
end
end SI

set_option maxHeartbeats 4000000
/-! SI 14: all expressions. -/
namespace SI
open PySem L2 PySem.Spec PyProof.Rows
section
variable {P : Prog} {go : Go} {k : Nat} {X : Cx} {sc : Scope} {W : WX} {a b c e o : Expr} {a' b' c' e' o' : E} {es : List Expr} {es' : Es} {pos p apos : Pos}
def plainE : E → Bool
  | .and _ _ => false
  | .or _ _ => false
  | .not _ => false
  | _ => true
theorem evT_plain (h : plainE a' = true) (env : Env) (st : Store) : evT P go a' env st = (evE P go a' env st).bind fun x st1 => (match truD x st1 with
    | some b => .ok b st1
    | none => .stuck) := by
  cases a' <;> first | rfl | (cases h)
theorem s_tru (ha : PE X a (RE P go X W a')) (hp : plainE a' = true) (he : ∀ whole, isTrue a X.env whole = (do let v ← whole; standAt a.pos; holding [v] (truthy v))) : PT X a (RT P go X W a') := (pt_truth ha he).weak fun σ H Q ⟨r, env, st, hE, S, h⟩ => by
  rw [evT_plain hp] at h
  refine rd_of hE S h.bind fun x st1 r1 H1 v u1 S1 hx h1 => ?_
  split at h1
  · rename_i b e
    exact ⟨b, tru_rel S1 hx e, post_ok h1 S1⟩
  · exact h1.elim
theorem t_not (ha : PT X a (RT P go X W a')) : PT X (.UnaryOp .Not a pos) (RT P go X W (.not a')) := (pt_not ha).weak fun σ H Q ⟨r, env, st, hE, S, h⟩ => by
  unfold evT at h
  exact rdt_of hE S h.bind fun x st1 r1 H1 u1 S1 h1 => post_ok h1 S1
theorem t_and {rest : List Expr} (ha : PT X a (RT P go X W a')) (hb : PW X (.BoolOp .And (b :: rest) pos) (RT P go X W b')) : PW X (.BoolOp .And (a :: b :: rest) pos) (RT P go X W (.and a' b')) := (pw_and ha hb).weak fun σ H Q ⟨r, env, st, hE, S, h⟩ => by
  unfold evT at h
  refine rdt_of hE S h.bind fun x st1 r1 H1 u1 S1 h1 => ?_
  cases x with
  | true => exact iteT ⟨r1, env, st1, hE.up u1, S1, h1⟩
  | false => exact iteF (post_ok h1 S1)
theorem t_or {rest : List Expr} (ha : PT X a (RT P go X W a')) (hb : PW X (.BoolOp .Or (b :: rest) pos) (RT P go X W b')) : PW X (.BoolOp .Or (a :: b :: rest) pos) (RT P go X W (.or a' b')) := (pw_or ha hb).weak fun σ H Q ⟨r, env, st, hE, S, h⟩ => by
  unfold evT at h
  refine rdt_of hE S h.bind fun x st1 r1 H1 u1 S1 h1 => ?_
  cases x with
  | true => exact iteT (post_ok h1 S1)
  | false => exact iteF ⟨r1, env, st1, hE.up u1, S1, h1⟩
theorem t_chain (G : Good P go k X sc W) (o1 o2 : COp) (ha : PE X a (RE P go X W a')) (hb : PE X b (RE P go X W b')) (hc : PE X c (RE P go X W c')) (hs : isSet b = false) (hs2 : isSet c = false) : PT X (.Compare a [unc o1, unc o2] [b, c] pos) (RT P go X W (.chain o1 o2 a' b' c')) := by
  obtain ⟨rr, ho, hr⟩ := cmp_ok (X := X) (mg := X.mg) (by have := G.room.un; omega) o1
  obtain ⟨rr2, ho2, hr2⟩ := cmp_ok (X := X) (mg := X.mg) (by have := G.room.un; omega) o2
  refine (pt_chain ho ho2 ha hb hc (show behindInMarks (unc o2) c = false from mark_no hs2)).weak fun σ H Q ⟨r, env, st, he, S, h⟩ => ?_
  rw [evT_plain rfl] at h
  unfold evE at h
  refine rd_of he S h.bind.bind fun x st1 r1 H1 v u1 S1 hx h1 => ?_
  refine rd_of (he.up u1) S1 h1.bind fun y st2 r2 H2 w u2 S2 hy h2 => ?_
  cases e : cmpD o1 x y st2 with
  | none => rw [e] at h2; exact h2.elim
  | some bb =>
    rw [e] at h2
    refine hr S2 (hx.up u2) hy e ⟨bb, rfl, ?_⟩
    cases bb with
    | false =>
      have h3 : PostR X.K X.mg r2 H2 (R.ok false st2) (OkT Q) (Wat W σ) := post_ok (x := bV false) (st := st2) h2 S2
      exact iteF ⟨false, rfl, post_ok h3 S2⟩
    | true =>
      refine iteT (rd_of ((he.up u1).up u2) S2 h2.bind fun z st3 r3 H3 w3 u3 S3 hz h3 => ?_)
      obtain ⟨b3, e3, q3⟩ := post_bV h3 S3
      exact hr2 S3 (hy.up u3) hz e3 ⟨b3, rfl, post_ok q3 S3⟩
/-- what is shown of each expression -/
def Snd (P : Prog) (go : Go) (X : Cx) (W : WX) (e : Expr) (e' : E) : Prop := PE X e (RE P go X W e') ∧ PT X e (RT P go X W e') ∧ ∀ op vs p, e = .BoolOp op vs p → PW X e (RT P go X W e')
theorem snd_bad (h : e' = .bad) : Snd P go X W e e' := by
  subst h
  have hT : ∀ σ H Q, ¬ RT P go X W .bad σ H Q := fun σ H Q ⟨r, env, st, _, _, h⟩ => h
  exact ⟨PE.never rd_bad, PT.never hT, fun _ _ _ _ => PW.never hT⟩
theorem snd_of (hn : ∀ op vs p, e ≠ .BoolOp op vs p) (ha : PE X e (RE P go X W e')) (hp : plainE e' = true) (he : ∀ whole, isTrue e X.env whole = (do let v ← whole; standAt e.pos; holding [v] (truthy v))) : Snd P go X W e e' :=
  ⟨ha, s_tru ha hp he, fun op vs p q => absurd q (hn op vs p)⟩
theorem any_len {es : List Expr} {n : Nat} (h : (es.any isStar || decide (n ≤ es.length)) = false) : es.any isStar = false ∧ es.length < n := by
  simp only [Bool.or_eq_false_iff, decide_eq_false_iff_not] at h
  exact ⟨h.1, by omega⟩
theorem er_nil {f : Expr → E} : es = [] → erEs f es = .nil := fun h => by subst h; rfl
theorem rev_arg {e e0 : Expr} (h : revArg sc e0 = some e) : ∃ p pos, e0 = .Call (.Name "reversed" p) [e] [] pos ∧ isGl sc "reversed" = true ∧ isStar e = false := by
  unfold revArg at h
  split at h
  · split at h
    · rename_i hh
      cases h
      obtain ⟨rfl, h2, h3⟩ := hh
      exact ⟨_, _, rfl, h2, h3⟩
    · cases h
  · cases h
theorem s_it (G : Good P go k X sc W) {f : Expr → E} (ih : ∀ e, PE X e (RE P go X W (f e))) {tg : Expr} (it : Expr) : PI X tg it (rdI P go X W (erI f sc it)) := by
  unfold erI
  split
  · rename_i x p es pos
    split
    · rename_i h
      obtain ⟨rfl, hg, hs, hl⟩ := h
      have hg' := G.gl (isGl_of hg).1
      rcases hl with hl | hl | hl
      · match es, hl, hs with
        | [a], _, hs => exact s_rng1 G hg' (by simpa using hs) (ih a)
      · match es, hl, hs with
        | [a, b], _, hs =>
          have h2 : isStar a = false ∧ isStar b = false := by simpa using hs
          exact s_rng2 G hg' h2.1 h2.2 (ih a) (ih b)
      · match es, hl, hs with
        | [a, b, c], _, hs =>
          have h2 : isStar a = false ∧ isStar b = false ∧ isStar c = false := by simpa using hs
          exact s_rng3 G hg' h2.1 h2.2.1 h2.2.2 (ih a) (ih b) (ih c)
    · split
      · rename_i e er
        obtain ⟨p1, pos1, h1, h2, h3⟩ := rev_arg er
        cases h1
        exact s_itRev G (G.gl (isGl_of h2).1) (ih e) h3
      · exact s_iter (ih _)
  · exact s_iter (ih _)
theorem plain_mapM {ts : List Expr} {l : List Ty} (h : ts.mapM (tyOf sc) = some l) : ts.length = l.length := by
  induction ts generalizing l with
  | nil => simp at h; subst h; rfl
  | cons t ts ih =>
    rw [List.mapM_cons] at h
    cases e1 : tyOf sc t with
    | none => rw [e1] at h; cases h
    | some y =>
      cases e2 : ts.mapM (tyOf sc) with
      | none => rw [e1, e2] at h; cases h
      | some ys =>
        rw [e1, e2] at h
        cases h
        simp [ih e2]
theorem tyBi_of {t : Expr} {n : TyN} (h : tyBi sc t = some n) : tyOf sc t = some (.bi n) := by
  unfold tyBi at h
  split at h
  · rename_i e; cases h; exact e
  · cases h
theorem tyBis : ∀ {ts : List Expr} {l : List TyN}, ts.mapM (tyBi sc) = some l → ts.mapM (tyOf sc) = some (l.map Ty.bi)
  | [], l, h => by simp at h; subst h; rfl
  | t :: ts, l, h => by
    rw [List.mapM_cons] at h ⊢
    cases e1 : tyBi sc t with
    | none => rw [e1] at h; cases h
    | some y =>
      cases e2 : ts.mapM (tyBi sc) with
      | none => rw [e1, e2] at h; cases h
      | some ys =>
        rw [e1, e2] at h
        cases h
        rw [tyBi_of e1, tyBis e2]
        rfl
theorem snd_all : ∀ (f : Nat) {X : Cx} {sc : Scope} {W : WX} (G : Good P go k X sc W) (e : Expr), Snd P go X W e (erE X.N f sc e) := by
  intro f
  induction f with
  | zero => intro X sc W G e; exact snd_bad rfl
  | succ f ih =>
    intro X sc W G e
    have iE : ∀ e, PE X e (RE P go X W (erE X.N f sc e)) := fun e => (ih G e).1
    have iT : ∀ e, PT X e (RT P go X W (erE X.N f sc e)) := fun e => (ih G e).2.1
    have iA : ∀ es : List Expr, es.any isStar = false → PA X es (RA P go X W (erEs (erE X.N f sc) es)) := s_args iE
    cases e with
    | Constant cc kk p =>
      cases cc with
      | int i => exact snd_of (fun _ _ _ h => by cases h) s_int rfl (fun _ => rfl)
      | bool i => exact snd_of (fun _ _ _ h => by cases h) s_bl rfl (fun _ => rfl)
      | none => exact snd_of (fun _ _ _ h => by cases h) s_non rfl (fun _ => rfl)
      | str i => exact snd_of (fun _ _ _ h => by cases h) s_str rfl (fun _ => rfl)
      | _ => exact snd_bad rfl
    | Name x p =>
      show Snd P go X W _ (erName X.N sc x)
      unfold erName
      split
      · exact snd_bad rfl
      · rename_i hd
        have hd2 : (x == ("__debug__" : Str)) = false ∧ (x == ("__classdict__" : Str)) = false := by simpa using hd
        split
        · rename_i e1
          split
          · rename_i i e2; exact snd_of (fun _ _ _ h => by cases h) (s_loc (ix_at e2) (G.vis (.inl e1)) hd2.1 hd2.2) rfl (fun _ => rfl)
          · exact snd_bad rfl
        · rename_i e1
          split
          · rename_i i e2; exact snd_of (fun _ _ _ h => by cases h) (s_loc (ix_at e2) (G.vis (.inr (.inl e1))) hd2.1 hd2.2) rfl (fun _ => rfl)
          · exact snd_bad rfl
        · rename_i e1
          split
          · rename_i i e2; exact snd_of (fun _ _ _ h => by cases h) (s_loc (ix_at e2) (G.vis (.inr (.inr e1))) hd2.1 hd2.2) rfl (fun _ => rfl)
          · exact snd_bad rfl
        · rename_i e1
          exact snd_of (fun _ _ _ h => by cases h) (s_glo G (G.gl e1) hd2.1) rfl (fun _ => rfl)
        · exact snd_bad rfl
    | BinOp a op b p =>
      show Snd P go X W _ (erBin op (erE X.N f sc a) (erE X.N f sc b))
      unfold erBin
      split
      · rename_i oo e1
        have := bop_unb e1
        subst this
        exact snd_of (fun _ _ _ h => by cases h) (s_bin oo (iE a) (iE b)) rfl (fun _ => rfl)
      · exact snd_bad rfl
    | UnaryOp op a p =>
      cases op with
      | USub => exact snd_of (fun _ _ _ h => by cases h) (s_neg (iE a)) rfl (fun _ => rfl)
      | Not => exact ⟨s_not (iE a), t_not (iT a), fun _ _ _ h => by cases h⟩
      | _ => exact snd_bad rfl
    | BoolOp op vs p =>
      cases vs with
      | nil => cases op <;> exact snd_bad rfl
      | cons a vs =>
        cases vs with
        | nil =>
          have hw : PW X (.BoolOp op [a] p) (RT P go X W (erE X.N f sc a)) := by
            cases op with
            | And => exact pw_and1 (iT a)
            | Or => exact pw_or1 (iT a)
          have he : erE X.N (f + 1) sc (.BoolOp op [a] p) = erE X.N f sc a := by cases op <;> rfl
          rw [he]
          exact ⟨pe_one (iE a), hw.pt, fun _ _ _ h => by cases h; exact hw⟩
        | cons b vs =>
          cases op with
          | And =>
            have hw := t_and (iT a) ((ih G (.BoolOp .And (b :: vs) p)).2.2 _ _ _ rfl)
            exact ⟨s_and (iE a) (iE _), hw.pt, fun _ _ _ h => by cases h; exact hw⟩
          | Or =>
            have hw := t_or (iT a) ((ih G (.BoolOp .Or (b :: vs) p)).2.2 _ _ _ rfl)
            exact ⟨s_or (iE a) (iE _), hw.pt, fun _ _ _ h => by cases h; exact hw⟩
    | Compare a ops cs p =>
      match ops, cs with
      | [op], [b] =>
        show Snd P go X W _ (erCmp (isSet b) op (erE X.N f sc a) (erE X.N f sc b))
        unfold erCmp
        split
        · exact snd_bad rfl
        · rename_i hs
          have hs' : isSet b = false := by simpa using hs
          split
          · rename_i oo e1
            have := cop_unc e1
            subst this
            exact ⟨s_cmp G oo (iE a) (iE b) hs', s_cmpT G oo (iE a) (iE b) hs', fun _ _ _ h => by cases h⟩
          · exact snd_bad rfl
      | [op, op2], [b, c] =>
        show Snd P go X W _ (erChn (isSet b || isSet c) op op2 (erE X.N f sc a) (erE X.N f sc b) (erE X.N f sc c))
        unfold erChn
        split
        · exact snd_bad rfl
        · rename_i hs
          have hs' : isSet b = false ∧ isSet c = false := by simpa using hs
          split
          · rename_i o1 o2 e1 e2
            have := cop_unc e1
            subst this
            have := cop_unc e2
            subst this
            exact ⟨s_chain G o1 o2 (iE a) (iE b) (iE c) hs'.1 hs'.2, t_chain G o1 o2 (iE a) (iE b) (iE c) hs'.1 hs'.2, fun _ _ _ h => by cases h⟩
          · exact snd_bad rfl
      | [], _ => exact snd_bad rfl
      | [_], [] => exact snd_bad rfl
      | [_], _ :: _ :: _ => exact snd_bad rfl
      | [_, _], [] => exact snd_bad rfl
      | [_, _], [_] => exact snd_bad rfl
      | [_, _], _ :: _ :: _ :: _ => exact snd_bad rfl
      | _ :: _ :: _ :: _, _ => exact snd_bad rfl
    | Tuple es kk p =>
      show Snd P go X W _ (erTup (es.any isStar || decide (100 ≤ es.length)) (erEs (erE X.N f sc) es))
      unfold erTup
      split
      · exact snd_bad rfl
      · rename_i h
        obtain ⟨h1, h2⟩ := any_len (by simpa using h)
        exact snd_of (fun _ _ _ h => by cases h) (s_tup (iA es h1) (by rw [esLen_er]; exact h2)) rfl (fun _ => rfl)
    | List es p =>
      show Snd P go X W _ (erLst (es.any isStar || decide (100 ≤ es.length)) (erEs (erE X.N f sc) es))
      unfold erLst
      split
      · exact snd_bad rfl
      · rename_i h
        obtain ⟨h1, h2⟩ := any_len (by simpa using h)
        exact snd_of (fun _ _ _ h => by cases h) (s_lst (iA es h1) (by rw [esLen_er]; exact h2)) rfl (fun _ => rfl)
    | Subscript a b p =>
      cases b with
      | Slice lo hi stp p2 =>
        cases stp with
        | some _ => exact snd_bad rfl
        | none =>
          have hO : ∀ o : Option Expr, PO X o (RO P go X W (o.map (erE X.N f sc))) := fun o => by
            cases o with
            | none => exact s_oN
            | some e => exact s_oS (iE e)
          exact snd_of (fun _ _ _ h => by cases h) (s_sl (iE a) (hO lo) (hO hi)) rfl (fun _ => rfl)
      | _ => exact snd_of (fun _ _ _ h => by cases h) (s_idx G (iE a) (iE _) (plainIx fun _ _ _ _ h => by cases h)) rfl (fun _ => rfl)
    | Dict ks vs p =>
      show Snd P go X W _ (erDict ks vs)
      unfold erDict
      split
      · exact snd_of (fun _ _ _ h => by cases h) s_dnew rfl (fun _ => rfl)
      · exact snd_of (fun _ _ _ h => by cases h) s_dlit rfl (fun _ => rfl)
      · exact snd_bad rfl
    | Attribute a m p =>
      show Snd P go X W _ (erFld (recvOk a) (erE X.N f sc a) m)
      unfold erFld
      split
      · rename_i hr
        exact snd_of (fun _ _ _ h => by cases h) (s_fld G (iE a) (base_ok hr)) rfl (fun _ => rfl)
      · exact snd_bad rfl
    | Call fn es kws p =>
      cases kws with
      | cons _ _ => cases fn <;> exact snd_bad rfl
      | nil =>
        cases fn with
        | Name x q =>
          show Snd P go X W _ (erCallN (erE X.N f sc) sc x es)
          unfold erCallN
          split
          · exact snd_bad rfl
          · rename_i hs0
            have hs : es.any isStar = false := by simpa using hs0
            split
            · rename_i hg0
              have hg := G.gl (isGl_of hg0).1
              split
              · rename_i hx
                subst hx
                unfold erIsi
                split
                · rename_i a ts x1 p2
                  split
                  · rename_i l e1
                    split
                    · rename_i hl
                      have h2 : isStar a = false := by simpa [isStar] using hs
                      exact snd_of (fun _ _ _ h => by cases h) (s_isiN G hg (tyBis e1) h2 (iE a) hl) rfl (fun _ => rfl)
                    · exact snd_bad rfl
                  · exact snd_bad rfl
                · rename_i a t _
                  split
                  · rename_i n e1
                    have h2 : isStar a = false ∧ isStar t = false := by simpa using hs
                    exact snd_of (fun _ _ _ h => by cases h) (s_isi1 G hg (tyBi_of e1) h2.1 (iE a)) rfl (fun _ => rfl)
                  · exact snd_bad rfl
                · exact snd_bad rfl
              · split
                · exact snd_bad rfl
                · split
                  · rename_i hx
                    subst hx
                    split
                    · rename_i a
                      exact snd_of (fun _ _ _ h => by cases h) (s_dcp G hg (iE a) (by simpa using hs)) rfl (fun _ => rfl)
                    · exact snd_bad rfl
                  split
                  · rename_i hx
                    subst hx
                    split
                    · rename_i a
                      split
                      · rename_i e er
                        obtain ⟨p1, pos1, rfl, h2, h3⟩ := rev_arg er
                        exact snd_of (fun _ _ _ h => by cases h) (s_rev G hg (G.gl (isGl_of h2).1) (iE e) h3) rfl (fun _ => rfl)
                      · exact snd_of (fun _ _ _ h => by cases h) (s_bi G (bb := .list) (by rfl) hg hs (iA [a] hs) er_nil) rfl (fun _ => rfl)
                    · exact snd_bad rfl
                  split
                  · rename_i bb e1
                    exact snd_of (fun _ _ _ h => by cases h) (s_bi G e1 hg hs (iA es hs) er_nil) rfl (fun _ => rfl)
                  · split
                    · exact snd_bad rfl
                    · rename_i h0
                      have h0' : es ≠ [] := by intro z; subst z; exact h0 rfl
                      split
                      · exact snd_of (fun _ _ _ h => by cases h) (s_mk G hg hs (iA es hs) h0') rfl (fun _ => rfl)
                      · exact snd_of (fun _ _ _ h => by cases h) (s_call G hg hs (iA es hs) h0' (esLen_er es)) rfl (fun _ => rfl)
            · exact snd_bad rfl
        | Attribute o m q =>
          show Snd P go X W _ (erCallA (erE X.N f sc) o m q p es)
          unfold erCallA
          split
          · exact snd_bad rfl
          · rename_i hs0
            have hs1 : es.any isStar = false ∧ recvOk o = true ∧ (q.endLine == p.line) = true ∧ es.length < 20 := by
              simpa [and_assoc] using hs0
            obtain ⟨hs, hr, hp, hl⟩ := hs1
            split
            · rename_i bm e1
              exact snd_of (fun _ _ _ h => by cases h) (s_bm G e1 (iE o) hs (iA es hs) er_nil hr hl hp) rfl (fun _ => rfl)
            · exact snd_of (fun _ _ _ h => by cases h) (s_meth G (iE o) hs (iA es hs) er_nil hr hl hp) rfl (fun _ => rfl)
        | _ => exact snd_bad rfl
    | ListComp elt gens cs p =>
      match gens with
      | [⟨tg, it, ifs, 0⟩] =>
        show Snd P go X W _ (erLc (L2.blkC X.N sc cs (ownOf X.N cs) && ownIs (ownOf X.N cs) ((tgOf X.N cs tg).getD ([], true)).1 && !isSet it) (tgOf X.N cs tg) (erI (erE X.N f sc) sc it) (ifs.map (erE X.N f cs)) (erE X.N f cs elt))
        unfold erLc
        split
        · rename_i hh
          have hh' : L2.blkC X.N sc cs (ownOf X.N cs) = true ∧ ownIs (ownOf X.N cs) ((tgOf X.N cs tg).getD ([], true)).1 = true ∧ isSet it = false := by
            simpa [and_assoc] using hh
          obtain ⟨hb, ho, hset⟩ := hh'
          have sub : ∀ (X' : Cx) (G' : Good P go k X' cs (fun _ _ _ _ => False)), X'.N = X.N → ∀ e, Snd P go X' (fun _ _ _ _ => False) e (erE X.N f cs e) := fun X' G' hN e => by
            have := ih G' e
            rw [hN] at this
            exact this
          cases ht : tgOf X.N cs tg with
          | none => exact snd_bad rfl
          | some gg =>
            obtain ⟨g, one⟩ := gg
            rw [ht] at ho
            cases ifs with
            | nil => exact snd_of (fun _ _ _ h => by cases h) (s_lcN G hb ho ht hset (s_it G iE it) fun X' G' h1 _ _ => (sub X' G' h1 elt).1) rfl (fun _ => rfl)
            | cons c cs' =>
              cases cs' with
              | nil => exact snd_of (fun _ _ _ h => by cases h) (s_lcS G hb ho ht hset (s_it G iE it) fun X' G' h1 _ _ => ⟨(sub X' G' h1 elt).1, (sub X' G' h1 c).2.1⟩) rfl (fun _ => rfl)
              | cons _ _ => exact snd_bad rfl
        · exact snd_bad rfl
      | [] => exact snd_bad rfl
      | ⟨_, _, _, .ofNat (n + 1)⟩ :: [] => exact snd_bad rfl
      | ⟨_, _, _, .negSucc _⟩ :: [] => exact snd_bad rfl
      | ⟨_, _, _, .ofNat 0⟩ :: _ :: _ => exact snd_bad rfl
      | ⟨_, _, _, .ofNat (n + 1)⟩ :: _ :: _ => exact snd_bad rfl
      | ⟨_, _, _, .negSucc _⟩ :: _ :: _ => exact snd_bad rfl
    | _ => exact snd_bad rfl
end
end SI

set_option maxHeartbeats 4000000
/-! SI 15: statements. -/
namespace SI
open PySem L2 PySem.Spec PyProof.Rows
def PostS (K : Frag) (mg : Str → Option Value) (r : List Addr) (H : Hp) (x : Out) (D : Ends) (W : WX) : Prop := match x with
  | .nx env st => ∀ r' H' σ', Up r H r' H' → Sim K mg r' st H' → EnvR K r' H' env σ' → D.nx σ' H'
  | .rt x st => ∀ r' H' v, Up r H r' H' → Sim K mg r' st H' → RelEv K r' H H' x v → D.rt v H'
  | .ex c fs env st => ∀ r' H' σ' cls od, Up r H r' H' → Sim K mg r' st H' → EnvR K r' H' env σ' → ExR K mg r' H' c fs cls od → W cls od σ' H'
  | .stuck => False
section
variable {K : Frag} {mg : Str → Option Value} {r r' : List Addr} {H H' : Hp} {D : Ends} {W : WX}
theorem PostS.up {x : Out} (h : PostS K mg r H x D W) (u : Up r H r' H') : PostS K mg r' H' x D W := by
  cases x with
  | nx env st => exact fun r2 H2 σ' u2 s e => h r2 H2 σ' (u.trans u2) s e
  | rt x st => exact fun r2 H2 v u2 s e => h r2 H2 v (u.trans u2) s (e.older u.dom)
  | ex c fs env st => exact fun r2 H2 σ' cls od u2 s e => h r2 H2 σ' cls od (u.trans u2) s e
  | stuck => exact h
theorem PostS.bind {x : Out} {f : Env → Store → Out} (h : PostS K mg r H (x.bind f) D W) : PostS K mg r H x { D with nx := fun σ' H' => ∃ r' env st, EnvR K r' H' env σ' ∧ Sim K mg r' st H' ∧ Up r H r' H' ∧ PostS K mg r' H' (f env st) D W } W := by
  cases x with
  | nx env st => exact fun r2 H2 σ' u2 s e => ⟨r2, env, st, e, s, u2, PostS.up (x := f env st) h u2⟩
  | rt x st => exact h
  | ex c fs env st => exact h
  | stuck => exact h
theorem PostS.out {α : Type} {x : R α} {env : Env} {f : α → Store → Out} {σ : L2.St} (he : EnvR K r H env σ) (h : PostS K mg r H (x.out env f) D W) : PostR K mg r H x (fun a st r1 H1 => PostS K mg r H (f a st) D W) (Wat W σ) := by
  cases x with
  | ok a st => exact fun r1 H1 u s => h
  | ex c fs st => exact fun r1 H1 cls od u s e => h r1 H1 σ cls od u s (he.up u) e
  | stuck => exact h
end
/-- readings of statements -/
def rdS (P : Prog) (go : Go) (K : Frag) (mg : Str → Option Value) (W : WX) (s : S) : TS := fun D σ H => ∃ r env st, EnvR K r H env σ ∧ Sim K mg r st H ∧ PostS K mg r H (exS P go s env st) D W
abbrev RS (P : Prog) (go : Go) (X : Cx) (W : WX) (s : S) : TS := rdS P go X.K X.mg W s
theorem _root_.L2.PS.weak {X : Cx} {e : Stmt} {t t' : TS} (h : PS X e t) (w : ∀ D σ H, t' D σ H → t D σ H) : PS X e t' := ⟨fun pins s σ H D I q => h.run pins s σ H D I (w D σ H q)⟩
theorem _root_.L2.PSs.weak {X : Cx} {e : List Stmt} {t t' : TS} (h : PSs X e t) (w : ∀ D σ H, t' D σ H → t D σ H) : PSs X e t' := ⟨fun pins s σ H D I q => h.run pins s σ H D I (w D σ H q)⟩
theorem _root_.L2.PS.none {X : Cx} {e : Stmt} {t : TS} (w : ∀ D σ H, ¬ t D σ H) : PS X e t := ⟨fun pins s σ H D I q => (w D σ H q).elim⟩
structure GoodS (P : Prog) (go : Go) (k : Nat) (X : Cx) (sc : Scope) (W : WX) : Prop extends Good P go k X sc W where
  po : PassesOwn (model X.prog X.w) X.A X.env X.xe
  kind : X.env.scope.kind = .function
  scx : X.env.scope = sc
  hs : X.stack = X.env :: X.outer
  hf : X.env.frame = some X.env.locals
section
variable {P : Prog} {go : Go} {k : Nat} {X : Cx} {sc : Scope} {W : WX} {a b c e o : Expr} {a' b' c' e' o' : E} {s' t' : S} {pos p : Pos}
theorem post_nx {r : List Addr} {H : Hp} {env : Env} {st : Store} {D : Ends} {σ : L2.St} (h : PostS X.K X.mg r H (.nx env st) D W) (S : Sim X.K X.mg r st H) (he : EnvR X.K r H env σ) : D.nx σ H := h r H σ (Up.refl r H) S he
theorem s_pass : PS X (.Pass pos) (RS P go X W .nop) := ps_pass.weak fun D σ H ⟨r, env, st, he, S, h⟩ => post_nx h S he
theorem sw_none {l : Nat} {env : PySem.Env} (h : isLc e = false) (t : Option Expr) : swapsWith e t l env = pure false := by
  cases e <;> first | rfl | (cases h)
theorem s_expr (ha : PE X a (RE P go X W a')) (h : isLc a = false) : PS X (.Expr a pos) (RS P go X W (.expr a')) := (ps_expr ha (sw_none h _)).weak fun D σ H ⟨r, env, st, he, S, h⟩ => by
  unfold exS at h
  exact rd_of he S (PostS.out he h) fun x st1 r1 H1 v u1 S1 hx h1 => h1 r1 H1 σ u1 S1 (he.up u1)
theorem s_ret (ha : PE X a (RE P go X W a')) : PS X (.Return (some a) pos) (RS P go X W (.ret a')) := (ps_ret ha).weak fun D σ H ⟨r, env, st, he, S, h⟩ => by
  unfold exS at h
  exact rd_of he S (PostS.out he h) fun x st1 r1 H1 v u1 S1 hx h1 => h1 r1 H1 v u1 S1 hx
theorem s_retN : PS X (.Return none pos) (RS P go X W .retN) := ps_retN.weak fun D σ H ⟨r, env, st, he, S, h⟩ => h r H _ (Up.refl r H) S rel_non'
theorem s_seq {f : Stmt → S} : ∀ {ss : List Stmt}, (∀ s ∈ ss, PS X s (RS P go X W (f s))) → PSs X ss (RS P go X W (sSeq f ss))
  | [], _ => pss_nil.weak fun D σ H ⟨r, env, st, he, S, h⟩ => post_nx h S he
  | s :: ss, hh => (pss_cons (hh s (by simp)) (s_seq fun t ht => hh t (by simp [ht]))).weak fun D σ H ⟨r, env, st, he, S, h⟩ => by
    have h' : PostS X.K X.mg r H ((exS P go (f s) env st).bind fun e s => exS P go (sSeq f ss) e s) D W := h
    have h2 := PostS.bind h'
    refine ⟨r, env, st, he, S, ?_⟩
    cases q : exS P go (f s) env st with
    | stuck => rw [q] at h2; exact h2
    | rt x st => rw [q] at h2; exact h2
    | ex c fs env st => rw [q] at h2; exact h2
    | nx env2 st2 =>
      rw [q] at h2
      intro r2 H2 σ2 u2 S2 e2
      obtain ⟨r3, env3, st3, h3, h4, _, h5⟩ := h2 r2 H2 σ2 u2 S2 e2
      exact ⟨r3, env3, st3, h3, h4, h5⟩
theorem s_if {as bs : List Stmt} (hc : PT X c (RT P go X W c')) (ha : PSs X as (RS P go X W s')) (hb : PSs X bs (RS P go X W t')) : PS X (.If c as bs pos) (RS P go X W (.ifs c' s' t')) := (ps_if hc ha hb).weak fun D σ H ⟨r, env, st, he, S, h⟩ => by
  unfold exS at h
  refine rdt_of he S (PostS.out he h) fun x st1 r1 H1 u1 S1 h1 => ?_
  cases x with
  | true => exact iteT ⟨r1, env, st1, he.up u1, S1, h1.up u1⟩
  | false => exact iteF ⟨r1, env, st1, he.up u1, S1, h1.up u1⟩
theorem post_imp {r : List Addr} {H : Hp} {x : Out} {D D' : Ends} (h : PostS X.K X.mg r H x D W) (hn : ∀ σ H, D.nx σ H → D'.nx σ H) (hr : D.rt = D'.rt) : PostS X.K X.mg r H x D' W := by
  cases x with
  | nx env st => exact fun r2 H2 σ2 u2 S2 e2 => hn _ _ (h r2 H2 σ2 u2 S2 e2)
  | rt x st => exact fun r2 H2 v u2 S2 e2 => by rw [← hr]; exact h r2 H2 v u2 S2 e2
  | ex c fs env st => exact h
  | stuck => exact h
theorem s_whl (G : GoodS P go k X sc W) {bs : List Stmt} (hc : PT X c (RT P go X W c')) (hb : PSs X bs (RS P go X W s')) : PS X (.While c bs [] pos) (RS P go X W (.whl c' s')) := (ps_while G.po hc hb).weak fun D σ H ⟨r, env, st, he, S, h⟩ => by
  unfold exS at h
  refine ⟨fun m σ' H' => ∃ r' env' st', EnvR X.K r' H' env' σ' ∧ Sim X.K X.mg r' st' H' ∧ PostS X.K X.mg r' H' (whGo (fun e s => evT P go c' e s) (fun e s => exS P go s' e s) m env' st') D W, ⟨loopFuel, r, env, st, he, S, h⟩, ?_⟩
  rintro m σ' H' ⟨r', env', st', he', S', h'⟩
  cases m with
  | zero => exact h'.elim
  | succ m =>
    unfold whGo at h'
    refine rdt_of he' S' (PostS.out he' h') fun x st1 r1 H1 u1 S1 h1 => ?_
    cases x with
    | false => exact iteF (h1 r1 H1 σ' u1 S1 (he'.up u1))
    | true =>
      refine iteT ⟨_, fun σ2 H2 q => ⟨m, Nat.lt_succ_self m, q⟩, r1, env', st1, he'.up u1, S1, ?_⟩
      have h2 := PostS.bind (PostS.up (show PostS X.K X.mg r' H' ((exS P go s' env' st1).bind fun e s => whGo (fun e s => evT P go c' e s) (fun e s => exS P go s' e s) m e s) D W from h1) u1)
      exact post_imp h2 (fun σ2 H2 ⟨r3, env3, st3, h3, h4, _, h5⟩ => ⟨r3, env3, st3, h3, h4, h5⟩) rfl
theorem s_for (G : GoodS P go k X sc W) {g : List Nat} {one : Bool} {tg it : Expr} {it' : Wk} {bs : List Stmt} (ht : tgOf X.N sc tg = some (g, one)) (hs : isSet it = false) (hi : PI X tg it (rdI P go X W it')) (hb : PSs X bs (RS P go X W s')) : PS X (.For tg it bs [] pos) (RS P go X W (.loop g one it' s')) :=
  (ps_for G.po G.calm hi (pg_tg G.toGood ht) hb (fold_no hs)).weak fun D σ H ⟨r, env, st, he, S, h⟩ => by
  unfold exS at h
  refine ⟨r, env, st, he, S, (PostS.out he h).mono fun cur st1 r1 H1 e1 u1 S1 h1 J hJ => ?_⟩
  refine ⟨fun i m σ' H' => ∃ r' env' st', Up r1 H1 r' H' ∧ EnvR X.K r' H' env' σ' ∧ Sim X.K X.mg r' st' H' ∧ PostS X.K X.mg r' H' (forGo cur g one (fun e s => exS P go s' e s) m i env' st') D W,
    ⟨turns cur st1, r1, env, st1, Up.refl r1 H1, he.up u1, S1, PostS.up h1 u1⟩, ?_⟩
  rintro i m σ' H' ⟨r', env', st', u, he', S', h'⟩
  cases m with
  | zero =>
    unfold forGo at h'
    split at h'
    · rename_i ds ec
      split at h'
      · rename_i hl
        exact .inl ⟨(hJ r' st' H' u S' ds ec).2 i hl, post_nx h' S' he'⟩
      · exact h'.elim
    · exact h'.elim
  | succ m =>
    unfold forGo at h'
    split at h'
    · rename_i ds ec
      split at h'
      · rename_i en
        exact .inl ⟨(hJ r' st' H' u S' ds ec).2 i (List.getElem?_eq_none_iff.mp en), post_nx h' S' he'⟩
      · rename_i d ed
        obtain ⟨hgo, hy⟩ := (hJ r' st' H' u S' ds ec).1 i d ed
        refine .inr ⟨hgo, _, fun σ2 H2 q => ⟨m, Nat.lt_succ_self m, q⟩, fun x H'' hyl => ?_⟩
        obtain ⟨rfl, hd⟩ := hy x H'' hyl
        split at h'
        · rename_i env2 hbg
          refine bindG_ok hbg hd he' fun σ2 he2 => ⟨r', env2, st', he2, S', ?_⟩
          have h2 := PostS.bind h'
          cases q : exS P go s' env2 st' with
          | stuck => rw [q] at h2; exact h2
          | rt x st => rw [q] at h2; exact h2
          | ex c fs env st => rw [q] at h2; exact h2
          | nx env3 st3 =>
            rw [q] at h2
            intro r4 H4 σ4 u4 S4 e4
            obtain ⟨r5, env5, st5, h5, h6, u6, h7⟩ := h2 r4 H4 σ4 u4 S4 e4
            exact ⟨r5, env5, st5, u.trans u6, h5, h6, h7⟩
        · exact h'.elim
    · exact h'.elim
/-- what an assignment to a name reads -/
theorem asg_reads {i : Nat} {te : TE} (hte : ∀ σ H Q, RE P go X W e' σ H Q → te σ H Q) : ∀ D σ H, RS P go X W (.asg i e') D σ H → tAsg te (gName i) D σ H := fun D σ H ⟨r, env, st, he, S, h⟩ => by
  unfold exS at h
  refine hte _ _ _ (rd_of he S (PostS.out he h) fun x st1 r1 H1 v u1 S1 hx h1 => ?_)
  obtain ⟨r2, U2, E2, S2, R2, _⟩ := mat_ok u1 S1 hx
  exact h1 r2 H1 _ U2 S2 (((he.up u1).ext E2).set i R2)
theorem s_asg (G : GoodS P go k X sc W) {y : Str} {i : Nat} {py : Pos} (hi : slotOf X.N sc y = some i) (hl : isLc e = false) (he : PE X e (RE P go X W e')) : PS X (.Assign [.Name y py] e pos) (RS P go X W (.asg i e')) := by
  obtain ⟨h1, h2⟩ := slot_of hi
  refine (ps_set (i := i) G.nd h1 (G.loc h2) he (sw_none hl _) ?_).weak (asg_reads fun _ _ _ h => h)
  rcases h2 with h2 | h2
  · rcases G.scr y _ h2 with q | ⟨q, _⟩
    · exact .inr q
    · cases q
  · exact .inl (G.fnc y h2)
theorem s_unp (G : GoodS P go k X sc W) {ts : List Expr} {kk : Nat} {g : List Nat} (ht : tgOf X.N sc (.Tuple ts kk p) = some (g, false)) (hl : isLc e = false) (hn : isTup e = false) (he : PE X e (RE P go X W e')) : PS X (.Assign [.Tuple ts kk p] e pos) (RS P go X W (.unp g e')) := by
  refine (ps_asg (pos := pos) he (pg_tg G.toGood ht) (by show swapsWith e (some (.Tuple ts kk p)) pos.line X.env = pure false; exact sw_none hl _) ?_ rfl).weak fun D σ H ⟨r, env, st, he, S, h⟩ => ?_
  · cases e <;> first | rfl | (cases hn)
  · unfold exS at h
    refine rd_of he S (PostS.out he h) fun x st1 r1 H1 v u1 S1 hx h1 => ?_
    split at h1
    · rename_i d
      split at h1
      · rename_i env2 hb
        exact bindG_ok hb hx (he.up u1) fun σ' he' => h1 r1 H1 σ' u1 S1 he'
      · exact h1.elim
    · exact h1.elim
theorem set_both (hu : X.A.units + 1 < cLine) : PSet X (fun o i v H Q => rSetL o i v H Q ∨ ∃ a H', o = .ref a ∧ DPut H a i v H' ∧ Q H') := by
  intro pins s σ H o i v ov iv u Q I ro ri rv h
  rcases h with h | ⟨a, H', rfl, g, q⟩
  · exact set_list pins s σ H o i v ov iv u Q I ro ri rv h
  · cases ro
    exact d_setItem hu I g ri rv fun s' I' => ⟨H', I', q⟩
theorem s_setI (G : GoodS P go k X sc W) {i : Expr} {i' : E} (he : PE X e (RE P go X W e')) (ho : PE X o (RE P go X W o')) (hi : PE X i (RE P go X W i')) (hsl : isSlice i = false) : PS X (.Assign [.Subscript o i p] e pos) (RS P go X W (.setI o' i' e')) := by
  refine (ps_asg he (pg_sub ho hi (set_both (by have := G.room.un; omega)) ?_) ?_ ?_ rfl).weak fun D σ H ⟨r, env, st, hE, S, h⟩ => ?_
  · intro v
    cases i <;> first | rfl | (cases hsl)
  · cases e <;> rfl
  · cases e <;> rfl
  · unfold exS at h
    refine rd_of hE S (PostS.out hE h) fun x st1 r1 H1 v u1 S1 hx h1 => ?_
    obtain ⟨r2, U2, E2, S2, R2, _⟩ := mat_ok u1 S1 hx
    refine rd_of ((hE.up u1).ext E2) S2 (PostR.up (PostS.out hE h1) U2) fun y st3 r3 H3 w u3 S3 hy h3 => ?_
    have U3 := U2.trans u3
    refine rd_of (((hE.up u1).ext E2).up u3) S3 (PostR.up (PostS.out hE h3) U3) fun z st4 r4 H4 q u4 S4 hz h4 => ?_
    have U4 := U3.trans u4
    have Rv := (u4.rel (u3.rel R2))
    have E4 := (((hE.up u1).ext E2).up u3).up u4
    split at h4
    · rename_i n kk
      have hy4 := hy.up u4
      split at h4
      · rename_i ds e1
        split at h4
        · rename_i k
          split at h4
          · rename_i j e2
            obtain ⟨l, zs, hl, rfl, y1, y2⟩ := lst_at S4 hy4 e1
            rw [rel_int hz]
            obtain ⟨S5, U5⟩ := S4.write (o' := .lst (zs.set j v)) (c' := .lst (ds.set j (mat x st1).1)) hl e1 y1 (fun f => f) fun t => ⟨_, upd_same, RelL.set (Rel.mono (Ext.refl r4) t Rv) j (RelL.mono (Ext.refl r4) t y2)⟩
            exact .inl ⟨l, zs, k, j, rfl, rfl, y1, by rw [← y2.length]; exact e2, h4 r4 _ σ (U4.trans U5) S5 (E4.up U5)⟩
          · exact h4.elim
        · exact h4.elim
      · rename_i kvs e1
        split at h4
        · rename_i k e2
          split at h4
          · rename_i hlim
            unfold RelEv Rel at hy4
            obtain ⟨l, hl, rfl⟩ := hy4
            obtain ⟨kw, z1, z2⟩ := S4.ok n l _ hl e1
            obtain ⟨S5, U5⟩ := S4.write (o' := .dK (putK kw k v)) (c' := .dic false (dPut kvs k (mat x st1).1)) hl e1 z1 (fun f => f) fun t => ⟨_, upd_same, RelK.put (Rel.mono (Ext.refl r4) t Rv) (z2.mono (Ext.refl r4) t)⟩
            refine .inr ⟨l, _, rfl, .inl ⟨kw, k, z1, dkey_rel hz e2, by rw [← z2.len]; exact lenS hlim, rfl⟩, h4 r4 _ σ (U4.trans U5) S5 (E4.up U5)⟩
          · exact h4.elim
        · exact h4.elim
      · exact h4.elim
    · exact h4.elim
theorem s_setF (G : GoodS P go k X sc W) {f : Str} (he : PE X e (RE P go X W e')) (ho : PE X o (RE P go X W o')) : PS X (.Assign [.Attribute o f p] e pos) (RS P go X W (.setF o' f e')) := by
  refine (ps_fld ho he ?_).weak fun D σ H ⟨r, env, st, hE, S, h⟩ => ?_
  · cases e <;> rfl
  · unfold exS at h
    refine rd_of hE S (PostS.out hE h) fun x st1 r1 H1 v u1 S1 hx h1 => ?_
    obtain ⟨r2, U2, E2, S2, R2, _⟩ := mat_ok u1 S1 hx
    refine rd_of ((hE.up u1).ext E2) S2 (PostR.up (PostS.out hE h1) U2) fun y st3 r3 H3 w u3 S3 hy h3 => ?_
    have U3 := U2.trans u3
    split at h3
    · rename_i n
      split at h3
      · rename_i c fs e1
        split at h3
        · rename_i hh
          unfold RelEv Rel at hy
          obtain ⟨l, hl, rfl⟩ := hy
          obtain ⟨C, dx, fv, z1, z2, z3⟩ := S3.ok n l _ hl e1
          obtain ⟨cl, na⟩ := G.tab.na c f C hh.2 z1
          have Rv := u3.rel R2
          obtain ⟨S5, U5⟩ := S3.write (o' := .ins C dx (putF f v fv)) (c' := .ins c (putD f (mat x st1).1 fs)) hl e1 z2 (fun f => f) fun t => ⟨C, dx, _, z1, upd_same, relF_put (Rel.mono (Ext.refl r3) t Rv) (RelF.mono (Ext.refl r3) t z3)⟩
          exact ⟨l, C, dx, fv, rfl, z2, cl, na, by rw [← relF_len z3]; exact hh.1, h3 r3 _ σ (U3.trans U5) S5 ((((hE.up u1).ext E2).up u3).up U5)⟩
        · exact h3.elim
      · exact h3.elim
    · exact h3.elim
theorem s_aug (G : GoodS P go k X sc W) {y : Str} {i : Nat} {py : Pos} {op : Operator} {oo : BOp} (hi : slotOf X.N sc y = some i) (ho : (op = .Add ∧ oo = .add) ∨ (op = .Sub ∧ oo = .sub)) (he : PE X e (RE P go X W e')) : PS X (.AugAssign (.Name y py) op e pos) (RS P go X W (.aug i oo e')) := by
  obtain ⟨h1, h2⟩ := slot_of hi
  have hf : X.fn y = true ∨ X.env.scope.names.lookup y = some .local := by
    rcases h2 with h2 | h2
    · rcases G.scr y _ h2 with q | ⟨q, _⟩
      · exact .inr q
      · cases q
    · exact .inl (G.fnc y h2)
  rcases ho with ⟨rfl, rfl⟩ | ⟨rfl, rfl⟩
  · refine (ps_aug (i := i) G.nd h1 (G.loc h2) he ip_add hf).weak fun D σ H ⟨r, env, st, hE, S, h⟩ => ?_
    unfold exS at h
    split at h
    · rename_i d e1
      obtain ⟨v, hv, hR⟩ := hE.2 i d e1
      refine ⟨v, hv, rd_of hE S (PostS.out hE h) fun x st1 r1 H1 w u1 S1 hx h2 => ?_⟩
      split at h2 <;> first | exact h2.elim | skip
      · rename_i a b _
        have : v = .int a := by unfold Rel at hR; exact hR
        subst this
        rw [rel_int hx]
        exact ⟨a, b, rfl, rfl, h2 r1 H1 _ u1 S1 ((hE.up u1).set i (by unfold Rel; rfl))⟩
      · rename_i hq; cases hq
    · exact h.elim
  · refine (ps_aug (i := i) G.nd h1 (G.loc h2) he ip_sub hf).weak fun D σ H ⟨r, env, st, hE, S, h⟩ => ?_
    unfold exS at h
    split at h
    · rename_i d e1
      obtain ⟨v, hv, hR⟩ := hE.2 i d e1
      refine ⟨v, hv, rd_of hE S (PostS.out hE h) fun x st1 r1 H1 w u1 S1 hx h2 => ?_⟩
      split at h2 <;> first | exact h2.elim | skip
      · rename_i hq; cases hq
      · rename_i a b _
        have : v = .int a := by unfold Rel at hR; exact hR
        subst this
        rw [rel_int hx]
        exact ⟨a, b, rfl, rfl, h2 r1 H1 _ u1 S1 ((hE.up u1).set i (by unfold Rel; rfl))⟩
    · exact h.elim
theorem s_raiseT (G : GoodS P go k X sc W) {c m : Str} {j : Nat} {p2 p3 : Pos} (hg : isGl sc c = true) : PS X (.Raise (some (.Call (.Name c p) [.Constant (.str m) j p2] [] p3)) none pos) (RS P go X W (.raiseT c)) := by
  cases q : P.excs.contains c with
  | false =>
    refine PS.none fun D σ H ⟨r, env, st, hE, S, h⟩ => ?_
    unfold exS at h
    simp only [q] at h
    exact h
  | true =>
    obtain ⟨C, hm, x⟩ := G.tab.ex c q
    obtain ⟨g1, g2⟩ := isGl_of hg
    refine (ps_raise G.calm G.tk (pmk_own PySem.F.excBase_ValueError x.x hm x.k (raises_own x.b x.t) (G.gl g1) g2)).weak fun D σ H ⟨r, env, st, hE, S, h⟩ => ?_
    unfold exS at h
    simp only [q] at h
    exact h r H σ _ _ (Up.refl r H) S hE ⟨⟨C, hm, rfl⟩, .inl ⟨rfl, rfl⟩⟩
end
end SI

set_option maxHeartbeats 4000000
/-! SI 16: all statements; a def's body; the table. -/
namespace SI
open PySem L2 PySem.Spec PyProof.Rows
section
variable {P : Prog} {go : Go} {k : Nat} {X : Cx} {sc : Scope} {W : WX} {a b c e o : Expr} {a' b' c' e' o' : E} {s' t' : S} {pos p : Pos}
theorem asg_bad {st : Stmt} {i : Nat} : PS X st (RS P go X W (.asg i .bad)) := PS.none fun D σ H ⟨r, env, st, hE, S, h⟩ => h
theorem s_bad {st : Stmt} : PS X st (RS P go X W .bad) := PS.none fun D σ H ⟨r, env, st, hE, S, h⟩ => h
theorem s_asgLc (G : GoodS P go k X sc W) {d : Nat} {y : Str} {i : Nat} {py : Pos} {elt : Expr} {gens : List Comprehension} {cs : Scope} (hi : slotOf X.N sc y = some i) (hsw : swOk sc y py (.ListComp elt gens cs p) = true) :
    PS X (.Assign [.Name y py] (.ListComp elt gens cs p) pos) (RS P go X W (.asg i (erE X.N d sc (.ListComp elt gens cs p)))) := by
  cases d with
  | zero => exact asg_bad
  | succ d =>
    match gens with
    | [⟨tg, it, ifs, 0⟩] =>
      show PS X _ (RS P go X W (.asg i (erLc (L2.blkC X.N sc cs (ownOf X.N cs) && ownIs (ownOf X.N cs) ((tgOf X.N cs tg).getD ([], true)).1 && !isSet it) (tgOf X.N cs tg) (erI (erE X.N d sc) sc it) (ifs.map (erE X.N d cs)) (erE X.N d cs elt))))
      obtain ⟨h1, h2⟩ := slot_of hi
      have hs1 : (match sc.names.lookup y with | some .local => true | _ => false) = true ∧ (py.line == p.line) = true ∧ (cs.names.any fun (n, k) => n == y && (k == .local || k == .cell)) = false := by
        have h : ((match sc.names.lookup y with | some .local => true | _ => false) && ((py.line == p.line) && !(cs.names.any fun (n, k) => n == y && (k == .local || k == .cell)))) = true := hsw
        simpa using h
      obtain ⟨q1, q2, q3⟩ := hs1
      have hyl : X.env.scope.names.lookup y = some .local := by
        rw [G.scx]
        split at q1
        · rename_i e; exact e
        · cases q1
      unfold erLc
      split
      · rename_i hh
        have hh' : L2.blkC X.N sc cs (ownOf X.N cs) = true ∧ ownIs (ownOf X.N cs) ((tgOf X.N cs tg).getD ([], true)).1 = true ∧ isSet it = false := by
          simpa [and_assoc] using hh
        obtain ⟨hb, ho, hset⟩ := hh'
        have sub : ∀ (X' : Cx) (G' : Good P go k X' cs (fun _ _ _ _ => False)), X'.N = X.N → ∀ e, Snd P go X' (fun _ _ _ _ => False) e (erE X.N d cs e) := fun X' G' hN e => by
          have := snd_all d G' e
          rw [hN] at this
          exact this
        have hI := s_it (tg := tg) G.toGood (fun e => (snd_all d G.toGood e).1) it
        cases ht : tgOf X.N cs tg with
        | none => exact asg_bad
        | some gg =>
          obtain ⟨g, one⟩ := gg
          rw [ht] at ho
          cases ifs with
          | nil =>
            refine (ps_setLc (i := i) G.calm G.nd h1 hyl (sw_true G.kind hyl q2 q3) hI (G.blkOk hb) (fun s H C cl fp => ?_) (fun s H C cl fp => pts_nil) (fun s H C cl fp => ?_) (fold_no hset)).weak (asg_reads (lc_reads (own_is ho) (fun {σ2 H2 r2 st2 env2 b st3 Qb} h1 h2 h3 h4 => ?_) fun σ H Q h => h))
            · exact pg_tg (X := X.blk s H cs (compEnvC cs cl C X.env) fp) G.toGood.blk ht
            · exact (sub (X.blk s H cs (compEnvC cs cl C X.env) fp) G.toGood.blk rfl elt).1
            · obtain ⟨rfl, rfl⟩ := h3
              exact h4 r2 H2 (Up.refl r2 H2) h2
          | cons c cs' =>
            cases cs' with
            | nil =>
              refine (ps_setLc (i := i) (tt := RT P go X (fun _ _ _ _ => False) (erE X.N d cs c)) G.calm G.nd h1 hyl (sw_true G.kind hyl q2 q3) hI (G.blkOk hb) (fun s H C cl fp => ?_) (fun s H C cl fp => pts_one ?_) (fun s H C cl fp => ?_) (fold_no hset)).weak (asg_reads (lc_reads (own_is ho) (fun {σ2 H2 r2 st2 env2 b st3 Qb} h1 h2 h3 h4 => ?_) fun σ H Q h => h))
              · exact pg_tg (X := X.blk s H cs (compEnvC cs cl C X.env) fp) G.toGood.blk ht
              · exact (sub (X.blk s H cs (compEnvC cs cl C X.env) fp) G.toGood.blk rfl c).2.1
              · exact (sub (X.blk s H cs (compEnvC cs cl C X.env) fp) G.toGood.blk rfl elt).1
              · have h3' : evT P go (erE X.N d cs c) env2 st2 = .ok b st3 := h3
                exact ⟨r2, env2, st2, h1, h2, by rw [h3']; exact fun r' H' u s => h4 r' H' u s⟩
            | cons _ _ => exact asg_bad
      · exact asg_bad
    | [] => exact asg_bad
    | ⟨_, _, _, .ofNat (n + 1)⟩ :: [] => exact asg_bad
    | ⟨_, _, _, .negSucc _⟩ :: [] => exact asg_bad
    | ⟨_, _, _, .ofNat 0⟩ :: _ :: _ => exact asg_bad
    | ⟨_, _, _, .ofNat (n + 1)⟩ :: _ :: _ => exact asg_bad
    | ⟨_, _, _, .negSucc _⟩ :: _ :: _ => exact asg_bad
theorem isLc_no (h : isLc e = true) : (∃ elt gens cs p, e = .ListComp elt gens cs p) ∨ (∀ y py, swOk sc y py e = false) := by
  cases e <;> first
    | (cases h; done)
    | exact .inl ⟨_, _, _, _, rfl⟩
    | exact .inr fun _ _ => rfl
theorem sndS_all (G : GoodS P go k X sc W) {d : Nat} : ∀ (f : Nat) (st : Stmt), PS X st (RS P go X W (erS X.N d f sc st)) := by
  intro f
  have iE : ∀ e, PE X e (RE P go X W (erE X.N d sc e)) := fun e => (snd_all d G.toGood e).1
  have iT : ∀ e, PT X e (RT P go X W (erE X.N d sc e)) := fun e => (snd_all d G.toGood e).2.1
  induction f with
  | zero => intro st; exact s_bad
  | succ f ih =>
    intro st
    have iS : ∀ ss, PSs X ss (RS P go X W (sSeq (erS X.N d f sc) ss)) := fun ss => s_seq fun t _ => ih t
    cases st with
    | Pass p => exact s_pass
    | Expr e p =>
      show PS X _ (RS P go X W (if isLc e then .bad else .expr (erE X.N d sc e)))
      split
      · exact s_bad
      · rename_i h; exact s_expr (iE e) (by simpa using h)
    | Return v p =>
      cases v with
      | none => exact s_retN
      | some e => exact s_ret (iE e)
    | If c a b p => exact s_if (iT c) (iS a) (iS b)
    | While c b els p =>
      cases els with
      | nil => exact s_whl G (iT c) (iS b)
      | cons _ _ => exact s_bad
    | For tg it b els p =>
      cases els with
      | cons _ _ => exact s_bad
      | nil =>
        show PS X _ (RS P go X W (sFor (isSet it) (tgOf X.N sc tg) (erI (erE X.N d sc) sc it) (sSeq (erS X.N d f sc) b)))
        unfold sFor
        split
        · exact s_bad
        · rename_i hset
          split
          · rename_i g o ht
            exact s_for G ht (by simpa using hset) (s_it G.toGood iE it) (iS b)
          · exact s_bad
    | Assign ts e p =>
      match ts with
      | [.Name y py] =>
        show PS X _ (RS P go X W (sAsg (swOk sc y py e) (slotOf X.N sc y) (erE X.N d sc e)))
        unfold sAsg
        split
        · rename_i hsw
          split
          · rename_i i hi
            cases hl : isLc e with
            | false => exact s_asg G hi hl (iE e)
            | true =>
              rcases isLc_no (sc := sc) hl with ⟨elt, gens, cs, p2, rfl⟩ | hno
              · exact s_asgLc G hi hsw
              · rw [hno y py] at hsw; cases hsw
          · exact s_bad
        · exact s_bad
      | [.Tuple ts kk q] =>
        show PS X _ (RS P go X W (sUnp (isLc e || isTup e) (tgOf X.N sc (.Tuple ts kk q)) (erE X.N d sc e)))
        unfold sUnp
        split
        · exact s_bad
        · rename_i hn
          have hn' : isLc e = false ∧ isTup e = false := by simpa using hn
          split
          · rename_i g ht
            exact s_unp G ht hn'.1 hn'.2 (iE e)
          · exact s_bad
      | [.Subscript o i q] =>
        show PS X _ (RS P go X W (if isSlice i then .bad else .setI (erE X.N d sc o) (erE X.N d sc i) (erE X.N d sc e)))
        split
        · exact s_bad
        · rename_i h; exact s_setI G (iE e) (iE o) (iE i) (by simpa using h)
      | [.Attribute o m q] => exact s_setF G (iE e) (iE o)
      | [] => exact s_bad
      | t :: _ :: _ => cases t <;> exact s_bad
      | [.BoolOp ..] => exact s_bad
      | [.NamedExpr ..] => exact s_bad
      | [.BinOp ..] => exact s_bad
      | [.UnaryOp ..] => exact s_bad
      | [.Lambda ..] => exact s_bad
      | [.IfExp ..] => exact s_bad
      | [.Dict ..] => exact s_bad
      | [.Set ..] => exact s_bad
      | [.ListComp ..] => exact s_bad
      | [.SetComp ..] => exact s_bad
      | [.DictComp ..] => exact s_bad
      | [.GeneratorExp ..] => exact s_bad
      | [.Await ..] => exact s_bad
      | [.Yield ..] => exact s_bad
      | [.YieldFrom ..] => exact s_bad
      | [.Compare ..] => exact s_bad
      | [.Call ..] => exact s_bad
      | [.FormattedValue ..] => exact s_bad
      | [.JoinedStr ..] => exact s_bad
      | [.Constant ..] => exact s_bad
      | [.Starred ..] => exact s_bad
      | [.List ..] => exact s_bad
      | [.Slice ..] => exact s_bad
    | AugAssign tg op e p =>
      cases tg with
      | Name y py =>
        show PS X _ (RS P go X W (sAug (slotOf X.N sc y) (bop op) (erE X.N d sc e)))
        unfold sAug
        split
        · rename_i i hi ho
          exact s_aug G hi (.inl ⟨bop_unb ho, rfl⟩) (iE e)
        · rename_i i hi ho
          exact s_aug G hi (.inr ⟨bop_unb ho, rfl⟩) (iE e)
        · exact s_bad
      | _ => exact s_bad
    | Raise x cause p =>
      match x, cause with
      | some (.Call (.Name c q) [.Constant (.str m) j p2] [] p3), none =>
        show PS X _ (RS P go X W (if isGl sc c then .raiseT c else .bad))
        split
        · rename_i h; exact s_raiseT G h
        · exact s_bad
      | none, _ => exact s_bad
      | some x, some _ =>
        have : erS X.N d (f + 1) sc (.Raise (some x) (some ‹_›) p) = .bad := by
          unfold erS
          split <;> first | rfl | simp_all
        rw [this]
        exact s_bad
      | some x, none =>
        by_cases hx : ∃ c q m j p2 p3, x = .Call (.Name c q) [.Constant (.str m) j p2] [] p3
        · obtain ⟨c, q, m, j, p2, p3, rfl⟩ := hx
          show PS X _ (RS P go X W (if isGl sc c then .raiseT c else .bad))
          split
          · rename_i h; exact s_raiseT G h
          · exact s_bad
        · have : erS X.N d (f + 1) sc (.Raise (some x) none p) = .bad := by
            unfold erS
            split <;> first | rfl | simp_all
          rw [this]
          exact s_bad
    | _ => exact s_bad
end
end SI

set_option maxHeartbeats 4000000
/-! SI 17: how arguments bind. -/
namespace SI
open PySem L2 PySem.Spec PyProof.Rows
theorem zip_lookup {α : Type} {n : Str} : ∀ {ps : List Str} {us : List α}, n ∈ ps → us.length = ps.length → ((ps.zip us).lookup n).isSome = true
  | [], us, h, _ => by cases h
  | p :: ps, [], _, h => by cases h
  | p :: ps, u :: us, h, hl => by
    by_cases e : n = p
    · subst e; simp [List.lookup]
    · have e2 : (n == p) = false := by simpa using e
      have h2 : n ∈ ps := by
        rcases List.mem_cons.mp h with z | z
        · exact absurd z e
        · exact z
      simp only [List.zip_cons_cons, List.lookup, e2]
      exact zip_lookup h2 (by simpa using hl)
theorem zip_fm {α : Type} {l : List (Str × α)} : ∀ {ps : List Str} {us : List α}, us.length = ps.length → (∀ (i : Nat) n u, ps[i]? = some n → us[i]? = some u → l.lookup n = some u) → ps.filterMap (fun n => (l.lookup n).map (n, ·)) = ps.zip us
  | [], us, hl, _ => by simp
  | p :: ps, [], hl, _ => by cases hl
  | p :: ps, u :: us, hl, h => by
    have h0 := h 0 p u rfl rfl
    rw [List.filterMap_cons, h0]
    simp only [Option.map_some, List.zip_cons_cons, List.cons.injEq, true_and]
    exact zip_fm (by simpa using hl) fun i n w h1 h2 => h (i + 1) n w (by simpa using h1) (by simpa using h2)
theorem zip_at {α : Type} : ∀ {ps : List Str} {us : List α} {i : Nat} {n : Str} {u : α}, ps.Nodup → ps[i]? = some n → us[i]? = some u → (ps.zip us).lookup n = some u
  | [], _, _, _, _, _, h, _ => by simp at h
  | p :: ps, [], _, _, _, _, _, h => by simp at h
  | p :: ps, u :: us, 0, n, w, _, h1, h2 => by
    simp at h1 h2; subst h1; subst h2
    simp [List.lookup]
  | p :: ps, u :: us, i + 1, n, w, nd, h1, h2 => by
    have h1' : ps[i]? = some n := by simpa using h1
    have h2' : us[i]? = some w := by simpa using h2
    have hn : n ∈ ps := List.mem_of_getElem? h1'
    have e : (n == p) = false := by
      simp only [beq_eq_false_iff_ne]
      intro z; subst z
      exact (List.nodup_cons.mp nd).1 hn
    simp only [List.zip_cons_cons, List.lookup, e]
    exact zip_at (List.nodup_cons.mp nd).2 h1' h2'
theorem bind_plain {x qual : Str} {args : List Arg} {body : List Stmt} {scope : Scope} {kV doc pm : Value} {an : Option Addr} {cdv ct : Value} {us : List Value} (nd : (args.map (·.arg)).Nodup) (hl : us.length = (args.map (·.arg)).length) {dd : List Expr} :
    bindArgs (PySem.W.fnOf x qual { posonlyargs := [], args := args, vararg := none, kwonlyargs := [], kw_defaults := [], kwarg := none, defaults := dd } body scope .none kV doc pm an cdv ct) ⟨us, []⟩ = pure ((args.map (·.arg)).zip us) := by
  have hf : ∀ k, (List.filter (fun n => (((args.map (·.arg)).zip us).lookup n).isNone) ((args.map (·.arg)).take k)) = [] := fun k => by
    rw [List.filter_eq_nil_iff]
    intro n hn
    have := zip_lookup (List.mem_of_mem_take hn) hl
    simp [Option.isNone_iff_eq_none, Option.isSome_iff_ne_none.mp this]
  have h2 := zip_fm (l := (args.map (·.arg)).zip us) hl fun i n u h3 h4 => zip_at nd h3 h4
  have hns : notAStandIn Value.none = pure () := rfl
  unfold bindArgs
  simp only [PySem.W.fnOf, List.map_nil, List.nil_append, List.append_nil]
  generalize args.map (·.arg) = ps at *
  have hm : ∀ (ps : List Str) (us : List Value), us.length = ps.length → ∀ x ∈ ps, ∃ v, (x, v) ∈ ps.zip us := by
    intro ps
    induction ps with
    | nil => intro us _ x hx; cases hx
    | cons p ps ih =>
      intro us hl x hx
      cases us with
      | nil => cases hl
      | cons u us =>
        rcases List.mem_cons.mp hx with rfl | hx
        · exact ⟨u, by simp⟩
        · obtain ⟨v, hv⟩ := ih us (by simpa using hl) x hx
          exact ⟨v, by simp [hv]⟩
  simp [seqItems?, hf, h2, hl, hns]
  intro x hx hn
  obtain ⟨v, hv⟩ := hm ps us hl x hx
  exact absurd hv (hn v)
/-! defaults -/
theorem forIn_fold {α β : Type} (g : β → α → β) : ∀ (l : List α) (s : β), (forIn l s fun a r => (pure (ForInStep.yield (g r a)) : Sem (ForInStep β))) = pure (l.foldl g s)
  | [], s => by rw [List.forIn_nil]; rfl
  | a :: l, s => by
    rw [List.forIn_cons, pure_bind]
    exact forIn_fold g l (g s a)
theorem look_app {α : Type} {x : Str} : ∀ {r t : List (Str × α)}, (r ++ t).lookup x = (r.lookup x).or (t.lookup x)
  | [], t => by simp
  | (a, v) :: r, t => by
    by_cases e : x = a
    · subst e; simp [List.lookup]
    · have e2 : (x == a) = false := by simpa using e
      simp only [List.cons_append, List.lookup, e2]
      exact look_app
def addDf {α : Type} (r : List (Str × α)) (p : Str × α) : List (Str × α) := if (r.lookup p.1).isNone = true then r ++ [p] else r
theorem look_fold {α : Type} {x : Str} : ∀ {l r : List (Str × α)}, (l.foldl addDf r).lookup x = (r.lookup x).or (l.lookup x)
  | [], r => by simp
  | (a, v) :: l, r => by
    rw [List.foldl_cons, look_fold]
    unfold addDf
    by_cases e : x = a
    · subst e
      cases q : r.lookup x with
      | none =>
        rw [if_pos (by rfl), look_app, q]
        simp [List.lookup]
      | some w =>
        rw [if_neg (by simp), q]
        simp
    · have e2 : (x == a) = false := by simpa using e
      split
      · rw [look_app]
        simp [List.lookup, e2]
      · simp [List.lookup, e2]
theorem zip_none {α : Type} {n : Str} : ∀ {ps : List Str} {us : List α} {i : Nat}, ps.Nodup → ps[i]? = some n → us.length ≤ i → (ps.zip us).lookup n = none
  | [], us, i, _, h, _ => by simp at h
  | p :: ps, [], i, _, _, _ => rfl
  | p :: ps, u :: us, 0, _, _, h => by simp at h
  | p :: ps, u :: us, i + 1, nd, h, hl => by
    have h' : ps[i]? = some n := by simpa using h
    have e : (n == p) = false := by
      simp only [beq_eq_false_iff_ne]
      intro z; subst z
      exact (List.nodup_cons.mp nd).1 (List.mem_of_getElem? h')
    simp only [List.zip_cons_cons, List.lookup, e]
    exact zip_none (List.nodup_cons.mp nd).2 h' (by simpa using hl)
theorem bind_dfl {x qual : Str} {args : List Arg} {body : List Stmt} {scope : Scope} {kV doc pm : Value} {T : Addr} {an : Option Addr} {cdv ct : Value} {us its : List Value} (nd : (args.map (·.arg)).Nodup) (h1 : us.length ≤ (args.map (·.arg)).length) (h2 : its.length ≤ (args.map (·.arg)).length) (h3 : (args.map (·.arg)).length ≤ us.length + its.length) {dd : List Expr} :
    ∃ k, bindArgs (PySem.W.fnOf x qual { posonlyargs := [], args := args, vararg := none, kwonlyargs := [], kw_defaults := [], kwarg := none, defaults := dd } body scope (.ref T) kV doc pm an cdv ct) ⟨us, []⟩ = seqItems? (.ref T) >>= k ∧
      k (some its.toArray) = pure ((args.map (·.arg)).zip (us ++ its.drop (us.length + its.length - (args.map (·.arg)).length))) := by
  unfold bindArgs
  simp only [PySem.W.fnOf, List.map_nil, List.nil_append, List.append_nil]
  generalize args.map (·.arg) = ps at *
  simp only [List.forIn_nil, pure_bind]
  refine ⟨_, rfl, ?_⟩
  have miss : (List.filter (fun n => ((ps.zip us).lookup n).isNone) (ps.take (ps.length - (its.drop (its.length - ps.length)).length))) = [] := by
    rw [List.filter_eq_nil_iff]
    intro n hn
    obtain ⟨i, hi⟩ := List.getElem?_of_mem hn
    have hlt : i < ps.length - (its.drop (its.length - ps.length)).length := by
      have := (List.getElem?_eq_some_iff.mp hi).1
      simp only [List.length_take] at this
      omega
    rw [List.getElem?_take_of_lt hlt] at hi
    have e0 : its.length - ps.length = 0 := by omega
    rw [e0] at hlt
    simp only [List.drop_zero] at hlt
    have hu : i < us.length := by omega
    rw [zip_at nd hi (List.getElem?_eq_getElem hu)]
    simp
  have hn : ¬ ps.length < us.length := by omega
  have e0 : its.length - ps.length = 0 := by omega
  have body : (fun (x : Str × Value) (r : List (Str × Value)) => if (List.lookup x.fst r).isNone = true then (pure (ForInStep.yield (r ++ [(x.fst, x.snd)])) : Sem _) else pure (ForInStep.yield r)) = fun x r => pure (ForInStep.yield (addDf r x)) := by
    funext x r
    unfold addDf
    split <;> rfl
  simp [hn]
  rw [body, forIn_fold, map_pure, if_neg (by rw [miss]; simp)]
  congr 1
  simp only [e0]
  refine zip_fm (by simp; omega) fun i n u hi hu => ?_
  rw [look_fold]
  have hip : i < ps.length := (List.getElem?_eq_some_iff.mp hi).1
  by_cases hlt : i < us.length
  · rw [List.getElem?_append_left hlt] at hu
    rw [zip_at nd hi hu]
    rfl
  · rw [List.getElem?_append_right (by omega), List.getElem?_drop] at hu
    rw [zip_none nd hi (by omega)]
    simp only [Option.none_or, Nat.sub_zero, List.drop_zero]
    have hd : (ps.drop (ps.length - its.length))[i - (ps.length - its.length)]? = some n := by
      rw [List.getElem?_drop, show ps.length - its.length + (i - (ps.length - its.length)) = i by omega]; exact hi
    refine zip_at (nd.sublist (List.drop_sublist _ _)) hd ?_
    rw [← hu]
    congr 1
    omega
end SI

set_option maxHeartbeats 4000000
/-! SI 18: the table of a text's defs; every def keeps its promise at every depth. -/
namespace SI
open PySem L2 PySem.Spec PyProof.Rows
/-! ### reading the top -/
def dvOf : Expr → He.Dv
  | .Constant (.int i) _ _ => .int i
  | .Constant (.bool b) _ _ => .bl b
  | .Constant (.str s) _ _ => .str s
  | _ => .non
def dvD : He.Dv → D
  | .int i => .int i
  | .bl b => .bl b
  | .str s => .str s
  | _ => .non
def mkDef (at_ : Str × Option Str) (name qual : Str) (a : Arguments) (b : List Stmt) (sc : Scope) : He.DefD := ⟨at_, name, qual, a, b, sc, a.defaults.map dvOf, []⟩
/-- a class's methods: name, qualified name, parameters, body, scope -/
abbrev Meths := List (Str × Str × Arguments × List Stmt × Scope)
def methsOf (c : Str) (body : List Stmt) : Meths := body.filterMap fun st => match st with
  | .FunctionDef n a b _ _ _ sc _ _ _ => some (n, c ++ ("." : Str) ++ n, a, b, sc)
  | _ => none
def isExcBase : List Expr → List Str → Bool
  | [.Name b _], ex => (b == ("ValueError" : Str)) || ex.contains b
  | _, _ => false
def baseMeths : List Expr → List (Str × Meths) → Meths
  | [.Name b _], acc => (acc.lookup b).getD []
  | _, _ => []
/-- the defs, the plain classes met so far, the exceptions' classes met so far -/
def defsGo : List Stmt → List (Str × Meths) → List Str → List He.DefD
  | [], _, _ => []
  | st :: ss, cl, ex => match st with
    | .FunctionDef n a b _ _ _ sc _ _ _ => mkDef (n, none) n n a b sc :: defsGo ss cl ex
    | .ClassDef c bases _ body _ _ _ _ _ _ _ =>
      if isExcBase bases ex then defsGo ss cl (c :: ex)
      else
        let own := methsOf c body
        let all := own ++ (baseMeths bases cl).filter fun m => !(own.any fun o => o.1 == m.1)
        (all.map fun m => mkDef (c, some m.1) m.1 m.2.1 m.2.2.1 m.2.2.2.1 m.2.2.2.2) ++ defsGo ss ((c, all) :: cl) ex
    | _ => defsGo ss cl ex
def defsOf (body : List Stmt) : List He.DefD := defsGo body [] []
/-- the exceptions' classes without an own __init__ -/
def excsGo : List Stmt → List Str → List Str
  | [], _ => []
  | st :: ss, ex => match st with
    | .ClassDef c bases _ body _ _ _ _ _ _ _ => if isExcBase bases ex then (if (methsOf c body).isEmpty then c :: excsGo ss (c :: ex) else excsGo ss (c :: ex)) else excsGo ss ex
    | _ => excsGo ss ex
def constsOf (body : List Stmt) : List (Str × D) := body.filterMap fun st => match st with
  | .Assign [.Name x _] (.Constant (.int i) _ _) _ => some (x, .int i)
  | .Assign [.Name x _] (.Constant (.str s) _ _) _ => if x == ("__name__" : Str) then none else some (x, .str s)
  | _ => none
/-! ### a def as the interpreter has it -/
mutual
def lcE : Nat → Expr → List Str
  | 0, _ => []
  | f + 1, e => match e with
    | .ListComp elt gens cs _ => (cs.names.filterMap fun y => match y.2 with | .local => if y.1 == ".0" then none else some y.1 | .cell => some y.1 | _ => none) ++ lcE f elt ++ gens.flatMap fun g => lcE f g.iter ++ g.ifs.flatMap (lcE f)
    | .BoolOp _ vs _ => vs.flatMap (lcE f)
    | .BinOp a _ b _ => lcE f a ++ lcE f b
    | .UnaryOp _ a _ => lcE f a
    | .Compare a _ bs _ => lcE f a ++ bs.flatMap (lcE f)
    | .Call fn es kws _ => lcE f fn ++ es.flatMap (lcE f) ++ kws.flatMap fun k => lcE f k.value
    | .Attribute a _ _ => lcE f a
    | .Subscript a b _ => lcE f a ++ lcE f b
    | .Tuple es _ _ => es.flatMap (lcE f)
    | .List es _ => es.flatMap (lcE f)
    | .Slice a b c _ => (a.map (lcE f)).getD [] ++ (b.map (lcE f)).getD [] ++ (c.map (lcE f)).getD []
    | .Dict ks vs _ => (ks.flatMap fun k => (k.map (lcE f)).getD []) ++ vs.flatMap (lcE f)
    | _ => []
end
def lcS : Nat → Stmt → List Str
  | 0, _ => []
  | f + 1, st => match st with
    | .Expr e _ => lcE 60 e
    | .Return (some e) _ => lcE 60 e
    | .If c a b _ => lcE 60 c ++ a.flatMap (lcS f) ++ b.flatMap (lcS f)
    | .While c b _ _ => lcE 60 c ++ b.flatMap (lcS f)
    | .For _ it b _ _ => lcE 60 it ++ b.flatMap (lcS f)
    | .Assign ts e _ => ts.flatMap (lcE 60) ++ lcE 60 e
    | .AugAssign _ _ e _ => lcE 60 e
    | .Raise (some e) _ _ => lcE 60 e
    | .Try b hs o fin _ => b.flatMap (lcS f) ++ (hs.flatMap fun h => match h with | .ExceptHandler _ _ bb _ => bb.flatMap (lcS f)) ++ o.flatMap (lcS f) ++ fin.flatMap (lcS f)
    | _ => []
def addNew : List Str → List Str → List Str
  | acc, [] => acc
  | acc, x :: xs => if acc.contains x then addNew acc xs else addNew (acc ++ [x]) xs
def psOf (d : He.DefD) : List Str := d.params.args.map (·.arg)
def namesOf (d : He.DefD) : List Str := addNew (addNew (psOf d) (d.scope.names.filterMap fun y => match y.2 with | .local => some y.1 | .cell => some y.1 | _ => none)) (d.body.flatMap (lcS 60))
def fnOf (d : He.DefD) : Fn := { np := d.params.args.length, ns := (namesOf d).length, dfl := d.dfl.map dvD, body := sSeq (erS (namesOf d) 60 60 d.scope) d.body }
def progOf (body : List Stmt) : Prog := { fns := (defsOf body).map fun d => (d.at_, fnOf d), consts := constsOf body, excs := excsGo body [] }
def plainDv : He.Dv → Bool
  | .non => true
  | .bl _ => true
  | .int _ => true
  | .str _ => true
  | _ => false
/-! ### what is looked at -/
def fsB (N ps : List Str) (sc : Scope) : Bool := (match sc.kind with | .function => true | _ => false) && (!sc.isCoroutine && (!sc.isGenerator && (decide N.Nodup && (decide (N.take ps.length = ps) &&
  ((ps.all fun x => match sc.names.lookup x with | some .local => true | some .cell => true | _ => false) && sc.names.all fun y => match y.2 with | .free => false | _ => true)))))
theorem fs_of {N ps : List Str} {sc : Scope} (h : fsB N ps sc = true) : FnScope N ps sc := by
  unfold fsB at h
  simp only [Bool.and_eq_true, Bool.not_eq_true', decide_eq_true_eq, List.all_eq_true] at h
  obtain ⟨h1, h2, h3, h4, h5, h6, h7⟩ := h
  refine ⟨?_, h2, h3, h4, h5, fun x hx => ?_, fun y hy e => ?_⟩
  · split at h1
    · assumption
    · cases h1
  · have := h6 x hx
    split at this
    · exact .inl (by assumption)
    · exact .inr (by assumption)
    · cases this
  · have := h7 y hy
    rw [e] at this
    cases this
def okDef (d : He.DefD) : Bool := fsB (namesOf d) (psOf d) d.scope && (d.params.posonlyargs.isEmpty && d.params.vararg.isNone && d.params.kwonlyargs.isEmpty && d.params.kw_defaults.isEmpty && d.params.kwarg.isNone && d.dfl.all plainDv && d.kwd.isEmpty && decide (d.dfl.length ≤ (psOf d).length) && decide (psOf d).Nodup && !(d.at_.1 == ("__debug__" : Str)))
def faD (d : He.DefD) : List He.Fa := match d.at_ with
  | (x, none) => [.glo x]
  | (c, some m) => [.glo c, .cls c, .meth c m] ++ (if m = nInit then [.mkr c] else [])
def isCls (ds : List He.DefD) (c : Str) : Bool := ds.any fun d => d.at_.1 == c && d.at_.2.isSome
def faOf (body : List Stmt) : List He.Fa := (defsOf body).flatMap faD ++ (flds.flatMap fun p => if isCls (defsOf body) p.1 then [.cls p.1, .noat p.1 p.2] else [.free p.1]) ++ (excsGo body []).flatMap (fun c => [.glo c, .exc c])
  ++ bNames.map .free ++ (constsOf body).filterMap fun p => match p.2 with
    | .int i => some (.int p.1 i)
    | .str s => some (.str p.1 s)
    | _ => none
section
variable {fa : List He.Fa} {fn : List He.DefD} {K : Frag}
theorem says_fa (c : He.SaysD fa fn K) {f : He.Fa} (h : f ∈ fa) : f.ok K = true := by
  obtain ⟨i, hi⟩ := List.getElem?_of_mem h
  exact c.fact i hi
theorem says_fn (c : He.SaysD fa fn K) {d : He.DefD} (h : d ∈ fn) : ∃ fd, FunD K d.name d.qual d.params d.body d.scope (d.dvs K) (d.kws K) (He.fAd K d.at_) fd := by
  obtain ⟨i, hi⟩ := List.getElem?_of_mem h
  exact c.def_ i hi
end
theorem lookup_mem {α β : Type} [BEq α] [LawfulBEq α] {k : α} {v : β} : ∀ {l : List (α × β)}, l.lookup k = some v → (k, v) ∈ l
  | [], h => by cases h
  | (a, b) :: l, h => by
    unfold List.lookup at h
    split at h
    · rename_i e
      cases h
      have : k = a := by simpa using e
      subst this
      exact List.mem_cons_self
    · exact List.mem_cons_of_mem _ (lookup_mem h)
/-! ### one def, one level up -/
section
variable {P : Prog} {pr : Program} {w : World} {K : Frag} {mg : Str → Option Value} {base : Heap}
theorem fn_level {n : Nat} {d : He.DefD} {a : Addr} {fd : FuncData} (T : Tab P pr w K mg base (goI P n) (2 * n)) (F : FunD K d.name d.qual d.params d.body d.scope (d.dvs K) (d.kws K) a fd) (ok : okDef d = true) :
    FnOk pr w K mg base (CX pr w) (2 * (n + 1)) a fd (psOf d) (spG (goI P (n + 1)) K mg (fnOf d)) := by
  have ok1 := (Bool.and_eq_true_iff.mp ok).1
  have FS := fs_of ok1
  refine F.ok (CX := CX pr w) (k := 2 * n + 1) FS (fun vs H Q E h => ?_) (fun cdv A outer s H vs Q E hr h => ?_)
  · obtain ⟨r, ds, st, h1, h2, _⟩ := h
    rw [← h1.length, h2]
    simp [psOf, fnOf]
  · obtain ⟨r, ds, st, h1, h2, S, h⟩ := h
    refine ⟨rdS P (goI P n) K mg (fun cls d _ H => E cls d H) (fnOf d).body, ?_, ?_⟩
    · have G : GoodS P (goI P n) (2 * n) (cxOf (CX pr w) pr w K mg base (namesOf d) d.qual d.scope a cdv A outer s H E) d.scope (fun cls d _ H => E cls d H) :=
        { nd := FS.nd, calm := rfl, room := hr, tk := takes_of rfl rfl rfl rfl, tab := T, fnc := fun _ _ => rfl, scr := fun x kd h => .inl h, po := passes_of rfl, kind := FS.kind, scx := rfl, hs := rfl, hf := rfl }
      exact s_seq (X := cxOf (CX pr w) pr w K mg base (namesOf d) d.qual d.scope a cdv A outer s H E) fun t _ => sndS_all G 60 t
    · refine ⟨r, ds.map some ++ List.replicate ((fnOf d).ns - (fnOf d).np) none, st, ⟨?_, fun i dd hi => ?_⟩, S, ?_⟩
      · unfold L2.start
        simp only [List.length_append, List.length_map, List.length_replicate, h1.length, ← h2]
        rfl
      · unfold L2.start
        have hlt : i < ds.length := by
          by_cases hlt : i < ds.length
          · exact hlt
          · rw [List.getElem?_append_right (by simpa using hlt)] at hi
            have := List.mem_of_getElem? hi
            simp at this
        rw [List.getElem?_append_left (by simpa using hlt), List.getElem?_map] at hi
        cases q : ds[i]? with
        | none => rw [q] at hi; cases hi
        | some d0 =>
          rw [q] at hi
          cases hi
          obtain ⟨v, z1, z2⟩ := h1.get q
          refine ⟨v, ?_, z2⟩
          rw [List.getElem?_append_left (by simp [← h1.length, hlt]), List.getElem?_map, z1]
          rfl
      · have h' : PostR K mg r H (Out.fin (exS P (goI P n) (fnOf d).body (ds.map some ++ List.replicate ((fnOf d).ns - (fnOf d).np) none) st)) (OkE K H Q) E := h
        cases q : exS P (goI P n) (fnOf d).body (ds.map some ++ List.replicate ((fnOf d).ns - (fnOf d).np) none) st with
        | stuck => rw [q] at h'; exact h'
        | nx env st' =>
          rw [q] at h'
          intro r' H' σ' u s' _
          exact h' r' H' u s' _ rel_nonV
        | rt x st' =>
          rw [q] at h'
          intro r' H' v u s' hx
          exact h' r' H' u s' v hx
        | ex c fs env st' =>
          rw [q] at h'
          intro r' H' σ' cls od u s' _ hx
          exact h' r' H' cls od u s' hx
where
  rel_nonV {r : List Addr} {H0 H : Hp} : RelEv K r H0 H (.v .non) .non := by unfold RelEv Rel; rfl
end
end SI

set_option maxHeartbeats 4000000
/-! SI 19: the table at every depth; the end. -/
namespace SI
open PySem L2 PySem.Spec PyProof.Rows
section
variable {body : List Stmt} {pr : Program} {w : World} {K : Frag} {mg : Str → Option Value} {base h : Heap}
theorem def_of {key : Key} {f : Fn} (e : (progOf body).fns.lookup key = some f) : ∃ d ∈ defsOf body, d.at_ = key ∧ fnOf d = f := by
  have := lookup_mem e
  obtain ⟨d, hd, e2⟩ := List.mem_map.mp (show (key, f) ∈ (defsOf body).map fun d => (d.at_, fnOf d) from this)
  cases e2
  exact ⟨d, hd, rfl, rfl⟩
theorem fa_def {d : He.DefD} {x : He.Fa} (hd : d ∈ defsOf body) (hx : x ∈ faD d) : x ∈ faOf body := by
  unfold faOf
  simp only [List.append_assoc, List.mem_append]
  exact .inl (List.mem_flatMap.mpr ⟨d, hd, hx⟩)
theorem fa_fld {p : Str × Str} {x : He.Fa} (hp : p ∈ flds) (hx : x ∈ (if isCls (defsOf body) p.1 then [He.Fa.cls p.1, .noat p.1 p.2] else [.free p.1])) : x ∈ faOf body := by
  unfold faOf
  simp only [List.append_assoc, List.mem_append]
  exact .inr (.inl (List.mem_flatMap.mpr ⟨p, hp, hx⟩))
theorem fa_exc {c : Str} (hc : c ∈ excsGo body []) {x : He.Fa} (hx : x ∈ [He.Fa.glo c, .exc c]) : x ∈ faOf body := by
  unfold faOf
  simp only [List.append_assoc, List.mem_append]
  exact .inr (.inr (.inl (List.mem_flatMap.mpr ⟨c, hc, hx⟩)))
theorem fa_free {x : Str} (hx : x ∈ bNames) : He.Fa.free x ∈ faOf body := by
  unfold faOf
  simp only [List.append_assoc, List.mem_append]
  exact .inr (.inr (.inr (.inl (List.mem_map.mpr ⟨x, hx, rfl⟩))))
theorem fa_const {x : Str} {d : D} (hx : (x, d) ∈ constsOf body) : (∃ i, d = .int i ∧ He.Fa.int x i ∈ faOf body) ∨ (∃ s, d = .str s ∧ He.Fa.str x s ∈ faOf body) := by
  have key : ∀ f, (match d with | .int i => some (He.Fa.int x i) | .str s => some (.str x s) | _ => none) = some f → f ∈ faOf body := fun f hf => by
    unfold faOf
    simp only [List.append_assoc, List.mem_append]
    exact .inr (.inr (.inr (.inr (List.mem_filterMap.mpr ⟨(x, d), hx, hf⟩))))
  have hx2 := hx
  unfold constsOf at hx
  obtain ⟨st, _, e⟩ := List.mem_filterMap.mp hx
  split at e
  · cases e; exact .inl ⟨_, rfl, key _ rfl⟩
  · split at e
    · cases e
    · cases e; exact .inr ⟨_, rfl, key _ rfl⟩
  · cases e
theorem ok_of (ok : (defsOf body).all okDef = true) {d : He.DefD} (hd : d ∈ defsOf body) : okDef d = true := List.all_eq_true.mp ok d hd
theorem dv_rel {K : Frag} : ∀ {l : List He.Dv}, l.all plainDv = true → ∀ r H, RelL K r H (l.map dvD) (l.map (He.Dv.v K))
  | [], _, r, H => relL_nil
  | d :: l, h, r, H => by
    obtain ⟨h1, h2⟩ := all_cons h
    refine relL_cons ?_ (dv_rel h2 r H)
    cases d <;> first | (cases h1; done) | (unfold dvD Rel; rfl)
theorem bnd_of {d : He.DefD} {a : Addr} {fd : FuncData} (F : FunD K d.name d.qual d.params d.body d.scope (d.dvs K) (d.kws K) a fd) (ok : okDef d = true) : Bnd K fd (psOf d) (fnOf d) := by
  have ok2 := (Bool.and_eq_true_iff.mp ok).2
  simp only [Bool.and_eq_true, List.isEmpty_iff, Option.isNone_iff_eq_none, decide_eq_true_eq] at ok2
  obtain ⟨⟨⟨⟨⟨⟨⟨⟨⟨h1, h2⟩, h3⟩, h4⟩, h5⟩, h6⟩, h7⟩, h7b⟩, h8⟩, h9⟩ := ok2
  obtain ⟨at_, name, qual, params, body, scope, dfl, kwd⟩ := d
  obtain ⟨po, args, va, ko, kd, kw, de⟩ := params
  simp only at h1 h2 h3 h4 h5 h6 h7 h7b
  subst h1 h2 h3 h4 h5 h7
  have hps : (psOf ⟨at_, name, qual, ⟨[], args, none, [], [], none, de⟩, body, scope, dfl, []⟩) = args.map (·.arg) := rfl
  refine ⟨by simp [psOf, fnOf], fun m hm hm2 => ?_⟩
  cases dfl with
  | nil =>
    refine ⟨[], [], .nil, FunD.bindsN F fun kV doc pm an cdv ct us hl => bind_plain h8 hl, fun r H => ?_⟩
    simp [fnOf]
    exact relL_nil
  | cons d0 dr =>
    have hne : (He.DefD.dvs K ⟨at_, name, qual, ⟨[], args, none, [], [], none, de⟩, body, scope, d0 :: dr, []⟩) ≠ [] := by
      unfold He.DefD.dvs; simp
    have hlen : (He.DefD.dvs K ⟨at_, name, qual, ⟨[], args, none, [], [], none, de⟩, body, scope, d0 :: dr, []⟩).length = (d0 :: dr).length := by
      unfold He.DefD.dvs; rw [List.length_map]
    have hnp : (fnOf ⟨at_, name, qual, ⟨[], args, none, [], [], none, de⟩, body, scope, d0 :: dr, []⟩).np = (args.map (·.arg)).length := by simp [fnOf]
    have hdl : (fnOf ⟨at_, name, qual, ⟨[], args, none, [], [], none, de⟩, body, scope, d0 :: dr, []⟩).dfl = (d0 :: dr).map dvD := rfl
    have hm' : m ≤ (args.map (·.arg)).length := Nat.le_trans hm (Nat.le_of_eq hnp)
    have hm2' : (args.map (·.arg)).length ≤ m + (d0 :: dr).length := by
      have := Nat.le_trans (Nat.le_of_eq hnp.symm) hm2
      rw [hdl] at this
      simpa using this
    have h7' : (d0 :: dr).length ≤ (args.map (·.arg)).length := h7b
    clear hm hm2
    rw [hdl, List.length_map, hnp]
    rw [hps] at h8 ⊢
    generalize hL : (d0 :: dr).length = L at *
    generalize hN : (args.map (·.arg)).length = N at *
    obtain ⟨ds, e1, e2⟩ := FunD.binds1 (ps := args.map (·.arg)) F m (m + L - N) hne (by rw [hlen, hN]; omega) fun T kV doc pm an cdv ct us its hu hi => by
      rw [hlen] at hi
      have := bind_dfl (x := name) (qual := qual) (body := body) (scope := scope) (kV := kV) (doc := doc) (pm := pm) (T := T) (an := an) (cdv := cdv) (ct := ct) (us := us) (its := its) (dd := de) h8 (by rw [hN]; omega) (by rw [hN]; omega) (by rw [hN]; omega)
      rw [hu, hi, hN] at this
      exact this
    refine ⟨_, ds, e1, e2, fun r H => ?_⟩
    exact (dv_rel h6 r H).drop _
theorem tab_all (X : K.In h) (G : h.Ns mainGlobals mg) (c : He.SaysD (faOf body) (defsOf body) K) (ok : (defsOf body).all okDef = true) : ∀ n, Tab (progOf body) pr w K mg base (goI (progOf body) n) (2 * n) := by
  -- what the facts give of each def
  have each : ∀ {key : Key} {f : Fn}, (progOf body).fns.lookup key = some f → ∀ n, (∀ d ∈ defsOf body, ∀ fd, FunD K d.name d.qual d.params d.body d.scope (d.dvs K) (d.kws K) (He.fAd K d.at_) fd → FnOk pr w K mg base (CX pr w) (2 * n) (He.fAd K d.at_) fd (psOf d) (spG (goI (progOf body) n) K mg (fnOf d))) →
      ∃ d fd, d ∈ defsOf body ∧ d.at_ = key ∧ fnOf d = f ∧ FnOk pr w K mg base (CX pr w) (2 * n) (He.fAd K key) fd (psOf d) (spG (goI (progOf body) n) K mg f) ∧ PySem.W.keepIn K (.ref (He.fAd K key)) = true ∧ Bnd K fd (psOf d) f ∧ (key.1 == ("__debug__" : Str)) = false := fun {key f} e n hfn => by
    obtain ⟨d, hd, rfl, rfl⟩ := def_of e
    obtain ⟨fd, F⟩ := says_fn c hd
    have hok := ok_of ok hd
    refine ⟨d, fd, hd, rfl, rfl, hfn d hd fd F, F.kp, bnd_of F hok, ?_⟩
    have ok2 := (Bool.and_eq_true_iff.mp (Bool.and_eq_true_iff.mp hok).2).2
    simpa using ok2
  have build : ∀ n, (∀ d ∈ defsOf body, ∀ fd, FunD K d.name d.qual d.params d.body d.scope (d.dvs K) (d.kws K) (He.fAd K d.at_) fd → FnOk pr w K mg base (CX pr w) (2 * n) (He.fAd K d.at_) fd (psOf d) (spG (goI (progOf body) n) K mg (fnOf d))) → Tab (progOf body) pr w K mg base (goI (progOf body) n) (2 * n) := fun n hfn => by
    refine { fn := ?_, mt := ?_, mkr := ?_, na := ?_, cs := ?_, bi := ?_, ex := ?_ }
    · intro x f e
      obtain ⟨d, fd, hd, ha, rfl, F, hk, hB, hn⟩ := each e n hfn
      refine ⟨_, fd, _, F, ?_, hk, hB, hn⟩
      have := He.glo_ok X G (says_fa c (fa_def (x := .glo x) hd (by unfold faD; rw [ha]; simp)))
      exact this
    · intro cc m f C e hC
      obtain ⟨d, fd, hd, ha, rfl, F, hk, hB, hn⟩ := each e n hfn
      have g1 := He.glo_ok X G (says_fa c (fa_def (x := .glo cc) hd (by unfold faD; rw [ha]; simp)))
      have g2 := He.meth_ok (says_fa c (fa_def (x := .meth cc m) hd (by unfold faD; rw [ha]; simp)))
      have g3 := He.cls_ok (says_fa c (fa_def (x := .cls cc) hd (by unfold faD; rw [ha]; simp)))
      rw [g1] at hC
      cases hC
      exact ⟨_, fd, _, F, g2, hB, g3⟩
    · intro cc f e
      obtain ⟨d, fd, hd, ha, rfl, F, hk, hB, hn⟩ := each e n hfn
      have g1 := He.glo_ok X G (says_fa c (fa_def (x := .glo cc) hd (by unfold faD; rw [ha]; simp)))
      have g2 := He.mkr_ok (says_fa c (fa_def (x := .mkr cc) hd (by unfold faD; rw [ha]; simp)))
      refine ⟨_, g1, hn, fun a hm => ?_⟩
      obtain ⟨m1, m2, m3⟩ := hm
      have e1 := g2.init
      rw [m1] at e1
      have e2 : a = He.ma K (He.ga K cc) "__init__" := by
        have := Option.some.inj (Option.some.inj e1)
        cases this
        rfl
      rw [e2]
      exact g2
    · intro cc f C hf hC
      have hmem : (cc, f) ∈ flds := by simpa using hf
      cases q : isCls (defsOf body) cc with
      | true =>
        obtain ⟨d, hd, hq⟩ := List.any_eq_true.mp q
        have hq' : d.at_.1 = cc ∧ d.at_.2.isSome = true := by simpa using hq
        obtain ⟨e1, e2⟩ := hq'
        obtain ⟨m, hm⟩ := Option.isSome_iff_exists.mp e2
        have ha : d.at_ = (cc, some m) := by rw [← e1, ← hm]
        have g1 := He.glo_ok X G (says_fa c (fa_def (x := .glo cc) hd (by unfold faD; rw [ha]; simp)))
        rw [g1] at hC
        cases hC
        exact ⟨He.cls_ok (says_fa c (fa_fld (p := (cc, f)) (x := .cls cc) hmem (by rw [q]; simp))), He.noat_ok (says_fa c (fa_fld (p := (cc, f)) (x := .noat cc f) hmem (by rw [q]; simp)))⟩
      | false =>
        have g := He.free_ok X G (says_fa c (fa_fld (p := (cc, f)) (x := .free cc) hmem (by rw [q]; simp)))
        rw [g] at hC
        cases hC
    · intro x d e
      rcases fa_const (lookup_mem (show (constsOf body).lookup x = some d from e)) with ⟨i, rfl, hf⟩ | ⟨s, rfl, hf⟩
      · obtain ⟨t, ht⟩ := He.int_ok X G (says_fa c hf)
        exact ⟨_, .int i, ht, ⟨t, rfl⟩, fun r H => by unfold Rel; rfl⟩
      · obtain ⟨t, ht⟩ := He.str_ok X G (says_fa c hf)
        exact ⟨_, .str s, ht, ⟨t, rfl⟩, fun r H => by unfold Rel; rfl⟩
    · intro x hx
      exact He.free_ok X G (says_fa c (fa_free hx))
    · intro cc hc
      have hmem : cc ∈ excsGo body [] := by simpa [progOf] using hc
      have g1 := He.glo_ok X G (says_fa c (fa_exc hmem (x := .glo cc) (by simp)))
      obtain ⟨x1, x2, x3, x4⟩ := He.exc_ok (says_fa c (fa_exc hmem (x := .exc cc) (by simp)))
      exact ⟨_, g1, ⟨x1, x2, x3, x4⟩⟩
  intro n
  induction n with
  | zero =>
    refine build 0 fun d hd fd F => ⟨fun vs H Q E hsp => ?_, fun A outer s H args us vs Q E hr he hb hv hsp => ?_⟩
    · obtain ⟨r, ds, st, _, _, _, hp⟩ := hsp
      exact hp.elim
    · obtain ⟨r, ds, st, _, _, _, hp⟩ := hsp
      exact hp.elim
  | succ n ih => exact build (n + 1) fun d hd fd F => fn_level ih F (ok_of ok hd)
/-- what the end asks of the law's own def -/
theorem law_ok {n : Nat} {d : He.DefD} (X : K.In h) (G : h.Ns mainGlobals mg) (c : He.SaysD (faOf body) (defsOf body) K) (ok : (defsOf body).all okDef = true) (hd : d ∈ defsOf body) (ha : d.at_ = (("law" : Str), (none : Option Str))) (hp : psOf d = ([("_law_script" : Str)] : List Str))
    (hk : d.dfl = [] ∧ d.kwd = []) {fa : Addr} (hfa : mg ("law" : Str) = some (.ref fa)) (hpl : d.params = { posonlyargs := [], args := d.params.args, vararg := none, kwonlyargs := [], kw_defaults := [], kwarg := none, defaults := d.params.defaults }) :
    ∃ fd : FuncData, (∀ (s : Shared) (v : Value), BindsTo s fd ⟨[v], []⟩ [(("_law_script" : Str), v)]) ∧ ∀ base : Heap, FnOk pr w K mg base (CX pr w) (2 * (n + 1)) fa fd ([("_law_script" : Str)] : List Str) (spG (goI (progOf body) (n + 1)) K mg (fnOf d)) := by
  obtain ⟨fd, F⟩ := says_fn c hd
  have g1 := He.glo_ok X G (says_fa c (fa_def (x := .glo "law") hd (by unfold faD; rw [ha]; simp)))
  rw [g1] at hfa
  cases hfa
  have hok := ok_of ok hd
  have e1 : He.fAd K d.at_ = He.ga K "law" := by rw [ha]; rfl
  refine ⟨fd, fun s v => ?_, fun base => ?_⟩
  · obtain ⟨hk1, hk2⟩ := hk
    have F' : FunD K d.name d.qual d.params d.body d.scope [] [] (He.fAd K d.at_) fd := by
      have := F
      unfold He.DefD.dvs He.DefD.kws at this
      rw [hk1, hk2] at this
      exact this
    rw [hpl] at F'
    have nd : (d.params.args.map (·.arg)).Nodup := by
      have : d.params.args.map (·.arg) = ([("_law_script" : Str)] : List Str) := hp
      rw [this]; simp
    have := FunD.bindsA (ps := d.params.args.map (·.arg)) F' (fun kV doc pm an cdv ct us hl => bind_plain nd hl) s [v] (by
      have : d.params.args.map (·.arg) = ([("_law_script" : Str)] : List Str) := hp
      rw [this]; rfl)
    have e2 : d.params.args.map (·.arg) = ([("_law_script" : Str)] : List Str) := hp
    rw [e2] at this
    exact this
  · have := fn_level (pr := pr) (w := w) (base := base) (n := n) (tab_all X G c ok n) F hok
    rw [hp, e1] at this
    exact this
/-- the law's promise from a run of the interpreter -/
theorem sp_law {n : Nat} {f : Fn} {H : Hp} {a : Addr} {ns : List Int} {st : Store} (hnp : f.np = 1) (hO : L2.Only H) (hS : SqL K H a (ns.map V.int)) (run : goI (progOf body) n f [.ro (ns.map D.int)] [] = .ok (.v (.bl true)) st) :
    spG (goI (progOf body) n) K mg f [.ref a] H (fun v _ => v = .bl true) fun _ _ _ => False := by
  refine ⟨[], [.ro (ns.map D.int)], [], relL_cons ?_ relL_nil, hnp.symm ▸ rfl, ⟨rfl, fun n m b h => by simp at h, fun n b cc h => by simp at h⟩, ?_⟩
  · unfold Rel
    refine ⟨a, ns.map V.int, rfl, ?_, ?_⟩
    · rcases hS with (hS | ⟨o, hS⟩) | hS
      · rcases hO a with q | ⟨o, xs, q⟩
        · rw [q] at hS; cases hS
        · rw [q] at hS; cases hS
      · exact .inl ⟨o, hS⟩
      · exact .inr hS
    · clear hS run
      induction ns with
      | nil => exact relL_nil
      | cons i ns ih => exact relL_cons (by unfold Rel; rfl) ih
  · rw [run]
    intro r' H' _ _ v hv
    unfold RelEv Rel at hv
    exact hv
end
end SI

set_option maxHeartbeats 4000000
/-! SI 20: a law from a run of the interpreter. -/
namespace SI
open PySem L2 PySem.Spec PyProof.Rows
def isLaw (k : Key) : Bool := decide (k = (("law" : Str), (none : Option Str)))
/-- what the end asks of the law's own def -/
def lawB (d : He.DefD) : Bool := !isLaw d.at_ || (decide (psOf d = ([("_law_script" : Str)] : List Str)) && (d.dfl.isEmpty && (d.kwd.isEmpty && (d.params.posonlyargs.isEmpty && (d.params.vararg.isNone && (d.params.kwonlyargs.isEmpty && (d.params.kw_defaults.isEmpty && d.params.kwarg.isNone)))))))
theorem walk_law {l : PySem.W.OpenLaw} {body : List Stmt} {q : Program} {loose : List Str} {XP : (Str → Option Value) → Heap → Prop} {d : DefRec} {m : Nat} {f : Fn} (n : Nat)
    (hn : l.most = some m) (hm : m ≤ sizeLine) (hdf : d.params.defaults = []) (hr : Room (2 * (n + 1)) callerA) (hname : d.name = ("law" : Str)) (ok : (defsOf body).all okDef = true) (okl : (defsOf body).all lawB = true)
    (hf : (progOf body).fns.lookup (("law" : Str), (none : Option Str)) = some f) (hnp : f.np = 1)
    (runs : ∀ ns : List Int, ns.length ≤ m → ∃ st, goI (progOf body) (n + 1) f [.ro (ns.map D.int)] [] = .ok (.v (.bl true)) st) :
    PySem.W.WalkO q loose XP (He.hookD 6 (faOf body) (defsOf body)).says l.row.toRowW d [] (fun f vs => PySem.call f vs) := by
  obtain ⟨dd, hd, ha, rfl⟩ := def_of hf
  have hb := List.all_eq_true.mp okl dd hd
  unfold lawB isLaw at hb
  rw [ha, decide_eq_true rfl] at hb
  simp only [Bool.not_true, Bool.false_or, Bool.and_eq_true, List.isEmpty_iff, Option.isNone_iff_eq_none, decide_eq_true_eq] at hb
  obtain ⟨hp, k1, k2, h1, h2, h3, h4, h5⟩ := hb
  have hpl : dd.params = { posonlyargs := [], args := dd.params.args, vararg := none, kwonlyargs := [], kw_defaults := [], kwarg := none, defaults := dd.params.defaults } := by
    obtain ⟨at_, name, qual, params, body, scope, dfl, kwd⟩ := dd
    obtain ⟨po, args, va, ko, kd, kw, de⟩ := params
    simp only at h1 h2 h3 h4 h5
    subst h1 h2 h3 h4 h5
    rfl
  refine Att.attach_call hn hdf fun w s₀ s₁ mg mb fa o pm cd doc a vs ns G Y ho hd' hcd hmg hobj hints hlen hg => ?_
  obtain ⟨K, KX, c⟩ := Y
  rw [hname] at hmg
  obtain ⟨fd, hb, hF⟩ := law_ok (pr := l.prog) (w := w) (n := n) KX G.T.g c ok hd ha hp ⟨k1, k2⟩ hmg hpl
  refine law_call KX G.T.g G.T.b G.T.builtins G.T.nolimit hg hobj hints (Nat.le_trans hlen hm) hr (fun base _ _ => hF base) hb (fun H hO hS => ?_) fun H e s' z => ?_
  · obtain ⟨st, e⟩ := runs ns hlen
    exact sp_law hnp hO hS e
  · obtain ⟨_, _, _, _, _, _, _, _, _, _, _, _, z⟩ := z
    exact z
end SI

set_option maxHeartbeats 1000000
/-! SI 22: lists of whole numbers. -/
namespace SI
open PySem
def iD (l : List Int) : List D := l.map D.int
theorem slD_to {ds : List D} {k : Nat} : slD ds none (some (k : Int)) = ds.take k := by
  unfold slD
  rw [HT.sIx_nat, HT.sIx_none]
  simp only [List.drop_zero, Nat.sub_zero]
  rw [← List.take_take, List.take_of_length_le (Nat.le_refl _)]
theorem rng_get {lo hi : Int} {i : Nat} {d : D} (h : (rngL lo hi)[i]? = some d) : d = .int (lo + (i : Int)) ∧ (i : Int) < hi - lo := by
  unfold rngL at h
  rw [List.getElem?_map] at h
  cases q : (List.range (hi - lo).toNat)[i]? with
  | none => rw [q] at h; cases h
  | some j =>
    rw [q] at h
    obtain ⟨hj, e⟩ := List.getElem?_eq_some_iff.mp q
    simp only [List.length_range] at hj
    simp only [List.getElem_range] at e
    subst e
    cases h
    exact ⟨rfl, by omega⟩
theorem rng_len {lo hi : Int} : (rngL lo hi).length = (hi - lo).toNat := by simp [rngL]
theorem atD_nat {ds : List D} {i : Nat} {d : D} (h : ds[i]? = some d) : atD ds (i : Int) = some d := L2.atI_nat h
section
variable {P : Prog} {go : Go} {a b c : E} {env : Env} {st s s' s'' : Store} {x y z : Ev} {ds : List D} {d : D}
theorem itRef {n : Nat} (h : st[n]? = some (.lst ds)) : items st (.v (.ref n)) = some ds := by
  show (match st[n]? with | some (.lst ds) => some ds | _ => none) = _
  rw [h]
end
end SI

set_option maxHeartbeats 1000000
/-! SI 23: what is to be shown of a run, walked forward by rewriting. -/
namespace SI
open PySem
abbrev XC := Str → List (Str × D) → Store → Prop
abbrev QE := Ev → Store → Prop
abbrev NC := Env → Store → Prop
abbrev XS := Str → List (Str × D) → Env → Store → Prop
/-- the runs, not to be unfolded -/
@[irreducible] def goW (P : Prog) (n : Nat) : Go := goI P n
theorem goW_eq (P : Prog) (n : Nat) : goW P n = goI P n := by unfold goW; rfl
/-- the place where the walk stands -/
def rho (p : Prop) : Prop := p
def LI (s : Store) (a : Nat) (l : List Int) : Prop := s[a]? = some (.lst (iD l))
def RX {α : Type} (r : R α) (Q : α → Store → Prop) (X : XC) : Prop := match r with
  | .ok v s => Q v s
  | .ex c fs s => X c fs s
  | .stuck => False
def OX (r : Out) (N : NC) (T : QE) (X : XS) : Prop := match r with
  | .nx e s => N e s
  | .rt v s => T v s
  | .ex c fs e s => X c fs e s
  | .stuck => False
theorem RX_bind {α β : Type} (r : R α) (f : α → Store → R β) (Q : β → Store → Prop) (X : XC) : RX (r.bind f) Q X = RX r (fun a s => RX (f a s) Q X) X := by cases r <;> rfl
theorem OX_bind (r : Out) (f : Env → Store → Out) (N : NC) (T : QE) (X : XS) : OX (r.bind f) N T X = OX r (fun e s => OX (f e s) N T X) T X := by cases r <;> rfl
theorem OX_out {α : Type} (r : R α) (env : Env) (f : α → Store → Out) (N : NC) (T : QE) (X : XS) : OX (r.out env f) N T X = RX r (fun a s => OX (f a s) N T X) (fun c fs s => X c fs env s) := by cases r <;> rfl
theorem RX.eq {α : Type} {r : R α} {Q : α → Store → Prop} (h : RX r Q fun _ _ _ => False) : ∃ v s, r = .ok v s ∧ Q v s := by
  cases r with
  | ok v s => exact ⟨v, s, rfl, h⟩
  | ex => exact h.elim
  | stuck => exact h.elim
theorem RX.mono {α : Type} {r : R α} {Q Q' : α → Store → Prop} {X X' : XC} (h : RX r Q X) (k : ∀ v s, Q v s → Q' v s) (kx : ∀ c fs s, X c fs s → X' c fs s) : RX r Q' X' := by
  cases r with
  | ok v s => exact k _ _ h
  | ex => exact kx _ _ _ h
  | stuck => exact h.elim
theorem OX.mono {r : Out} {N N' : NC} {T T' : QE} {X X' : XS} (h : OX r N T X) (k : ∀ v s, N v s → N' v s) (kt : ∀ v s, T v s → T' v s) (kx : ∀ c fs e s, X c fs e s → X' c fs e s) : OX r N' T' X' := by
  cases r with
  | nx => exact k _ _ h
  | rt => exact kt _ _ h
  | ex => exact kx _ _ _ _ h
  | stuck => exact h.elim
def wE (P : Prog) (go : Go) (e : E) (env : Env) (st : Store) (Q : QE) (X : XC) : Prop := RX (evE P go e env st) Q X
def wEs (P : Prog) (go : Go) (e : Es) (env : Env) (st : Store) (Q : List Ev → Store → Prop) (X : XC) : Prop := RX (evEs P go e env st) Q X
def wO (P : Prog) (go : Go) (e : Option E) (env : Env) (st : Store) (Q : Option Int → Store → Prop) (X : XC) : Prop := RX (evO P go e env st) Q X
def wI (P : Prog) (go : Go) (e : Wk) (env : Env) (st : Store) (Q : Cur → Store → Prop) (X : XC) : Prop := RX (evI P go e env st) Q X
def wT (P : Prog) (go : Go) (e : E) (env : Env) (st : Store) (Q : Bool → Store → Prop) (X : XC) : Prop := RX (evT P go e env st) Q X
def wS (P : Prog) (go : Go) (a : S) (env : Env) (st : Store) (N : NC) (T : QE) (X : XS) : Prop := OX (exS P go a env st) N T X
def wF (go : Go) (fn : Fn) (ds : List D) (st : Store) (Q : QE) (X : XC) : Prop := RX (go fn ds st) Q X
def wOf {α : Type} (o : Option α) (Q : α → Prop) : Prop := match o with
  | some a => Q a
  | none => False
theorem RX_of {α : Type} (o : Option α) (st : Store) (Q : α → Store → Prop) (X : XC) : RX (R.of o st) Q X = wOf o fun a => Q a st := by cases o <;> rfl
def wB (op : BOp) (x y : Ev) (s : Store) (Q : Ev → Prop) : Prop := wOf (binD op x y s) Q
def wC (op : COp) (x y : Ev) (s : Store) (Q : Bool → Prop) : Prop := wOf (cmpD op x y s) Q
def wBi (b : BI) (xs : List Ev) (s : Store) (Q : Ev → Prop) : Prop := wOf (biD b xs s) Q
def wTr (x : Ev) (s : Store) (Q : Bool → Prop) : Prop := wOf (truD x s) Q
def wBo (x : Ev) (Q : Bool → Prop) : Prop := match x with
  | .v (.bl c) => Q c
  | _ => False
def wIn (x : Ev) (Q : Int → Prop) : Prop := match x with
  | .v (.int c) => Q c
  | _ => False
def wRef (x : Ev) (Q : Nat → Prop) : Prop := match x with
  | .v (.ref c) => Q c
  | _ => False
def wM (x : Ev) (s : Store) (Q : D → Store → Prop) : Prop := Q (mat x s).1 (mat x s).2
def wMs (x : List Ev) (s : Store) (Q : List D → Store → Prop) : Prop := Q (mats x s).1 (mats x s).2
def wGet (s : Store) (n : Nat) (Q : List D → Prop) : Prop := match s[n]? with
  | some (.lst ds) => Q ds
  | _ => False
def wIns (s : Store) (n : Nat) (Q : Str → List (Str × D) → Prop) : Prop := match s[n]? with
  | some (.ins c fs) => Q c fs
  | _ => False
/-- a cell -/
def wCl (s : Store) (n : Nat) (Q : Cell → Prop) : Prop := match s[n]? with
  | some c => Q c
  | _ => False
def wDic (s : Store) (n : Nat) (Q : Bool → List (L2.Key × D) → Prop) : Prop := match s[n]? with
  | some (.dic k kvs) => Q k kvs
  | _ => False
def wStr (x : Ev) (Q : Str → Prop) : Prop := match x with
  | .v (.str c) => Q c
  | _ => False
def wVl (x : Ev) (Q : D → Prop) : Prop := match x with
  | .v c => Q c
  | _ => False
def wIx (x y : Ev) (s : Store) (Q : D → Prop) : Prop := wOf (idxD x y s) Q
def wIxC (c : Cell) (k : D) (Q : D → Prop) : Prop := match c, k with
  | .lst ds, .int i => wOf (atD ds i) Q
  | .dic _ kvs, k => wOf ((dkey k).bind (dGet kvs)) Q
  | _, _ => False
def wDg (kvs : List (L2.Key × D)) (k : L2.Key) (Q : D → Prop) : Prop := wOf (dGet kvs k) Q
def wSl (x : Ev) (i j : Option Int) (s : Store) (Q : Ev → Prop) : Prop := wOf (slE x i j s) Q
def wRc (m : BM) (x : Ev) (s : Store) (R : Prop) : Prop := bmRecv m x s = true ∧ R
def wBm (m : BM) (x : Ev) (xs : List Ev) (s : Store) (Q : QE) : Prop := RX (bmD m x xs s) Q fun _ _ _ => False
def wIt (s : Store) (x : Ev) (Q : List D → Prop) : Prop := wOf (items s x) Q
def wLs (s : Store) (x : Ev) (Q : List D → Prop) : Prop := wOf (lstE s x) Q
def wAt (ds : List D) (i : Int) (Q : D → Prop) : Prop := wOf (atD ds i) Q
def wIsi (x : Ev) (ts : List Ty) (s : Store) (Q : Bool → Prop) : Prop := wOf (tyD x s) fun t => wOf (isiD t ts) Q

section
variable {P : Prog} {go : Go} {a b c e : E} {es : Es} {env : Env} {st s : Store} {Q : QE} {X : XC} {N : NC} {T : QE} {XX : XS} {p q : S} {ds : List D} {d d2 : D} {i j : Int} {n : Nat}

@[simp  ↓] theorem rho_ite {k : Prop} [Decidable k] {A B : Prop} : rho (if k then A else B) = if k then rho A else rho B := by
  unfold rho; rfl
@[simp  ↓] theorem rho_and {A B : Prop} : rho (A ∧ B) = (A ∧ rho B) := rfl
@[simp  ↓] theorem rho_eq {α : Type} {x y : α} : rho (x = y) = (x = y) := rfl
@[simp  ↓] theorem rho_ex {α : Type} {p : α → Prop} : rho (∃ x, p x) = ∃ x, rho (p x) := rfl
@[simp  ↓] theorem rho_false : rho False = False := rfl
@[simp  ↓] theorem rho_true : rho True = True := rfl
@[simp  ↓] theorem rho_or {A B : Prop} : rho (A ∨ B) = (A ∨ B) := rfl
@[simp  ↓] theorem rho_le {x y : Nat} : rho (x ≤ y) = (x ≤ y) := rfl
@[simp  ↓] theorem rho_lt {x y : Nat} : rho (x < y) = (x < y) := rfl
@[simp  ↓] theorem rho_leI {x y : Int} : rho (x ≤ y) = (x ≤ y) := rfl
@[simp  ↓] theorem rho_ltI {x y : Int} : rho (x < y) = (x < y) := rfl
@[simp  ↓] theorem rho_LI {s : Store} {n : Nat} {l : List Int} : rho (LI s n l) = LI s n l := rfl
theorem wOf_some {α : Type} {x : α} {Q : α → Prop} : wOf (some x) Q = Q x := rfl
@[simp ↓] theorem wOf_some_r {α : Type} {x : α} {Q : α → Prop} : rho (wOf (some x) Q) = rho (Q x) := congrArg rho (wOf_some)
theorem wE_int : wE P go (.int i) env st Q X = Q (.v (.int i)) st := rfl
@[simp ↓] theorem wE_int_r : rho (wE P go (.int i) env st Q X) = rho (Q (.v (.int i)) st) := congrArg rho (wE_int)
theorem wE_bl {k : Bool} : wE P go (.bl k) env st Q X = Q (.v (.bl k)) st := rfl
@[simp ↓] theorem wE_bl_r {k : Bool} : rho (wE P go (.bl k) env st Q X) = rho (Q (.v (.bl k)) st) := congrArg rho (wE_bl)
theorem wE_non : wE P go .non env st Q X = Q (.v .non) st := rfl
@[simp ↓] theorem wE_non_r : rho (wE P go .non env st Q X) = rho (Q (.v .non) st) := congrArg rho (wE_non)
theorem wE_str {x : Str} : wE P go (.str x) env st Q X = Q (.v (.str x)) st := rfl
@[simp ↓] theorem wE_str_r {x : Str} : rho (wE P go (.str x) env st Q X) = rho (Q (.v (.str x)) st) := congrArg rho (wE_str)
theorem wE_bin {op : BOp} : wE P go (.bin op a b) env st Q X = wE P go a env st (fun x s => wE P go b env s (fun y s' => wB op x y s' fun v => Q v s') X) X := by
  unfold wE; conv => lhs; unfold evE
  rw [RX_bind]; congr; funext x s; rw [RX_bind]; congr; funext y s'; exact RX_of _ _ _ _
@[simp ↓] theorem wE_bin_r {op : BOp} : rho (wE P go (.bin op a b) env st Q X) = rho (wE P go a env st (fun x s => wE P go b env s (fun y s' => wB op x y s' fun v => Q v s') X) X) := congrArg rho (wE_bin)
theorem wE_neg : wE P go (.neg a) env st Q X = wE P go a env st (fun x s => wIn x fun i => Q (.v (.int (-i))) s) X := by
  unfold wE; conv => lhs; unfold evE
  rw [RX_bind]; congr; funext x s; cases x with
  | t l => rfl
  | v d => cases d <;> rfl
@[simp ↓] theorem wE_neg_r : rho (wE P go (.neg a) env st Q X) = rho (wE P go a env st (fun x s => wIn x fun i => Q (.v (.int (-i))) s) X) := congrArg rho (wE_neg)
theorem wE_not : wE P go (.not a) env st Q X = wE P go a env st (fun x s => wBo x fun k => Q (.v (.bl (!k))) s) X := by
  unfold wE; conv => lhs; unfold evE
  rw [RX_bind]; congr; funext x s; cases x with
  | t l => rfl
  | v d => cases d <;> rfl
@[simp ↓] theorem wE_not_r : rho (wE P go (.not a) env st Q X) = rho (wE P go a env st (fun x s => wBo x fun k => Q (.v (.bl (!k))) s) X) := congrArg rho (wE_not)
theorem wE_and : wE P go (.and a b) env st Q X = wE P go a env st (fun x s => wBo x fun k => if k = true then wE P go b env s Q X else Q (.v (.bl false)) s) X := by
  unfold wE; conv => lhs; unfold evE
  rw [RX_bind]; congr; funext x s; cases x with
  | t l => rfl
  | v d => cases d with
    | bl k => cases k <;> rfl
    | _ => rfl
@[simp ↓] theorem wE_and_r : rho (wE P go (.and a b) env st Q X) = rho (wE P go a env st (fun x s => wBo x fun k => if k = true then wE P go b env s Q X else Q (.v (.bl false)) s) X) := congrArg rho (wE_and)
theorem wE_or : wE P go (.or a b) env st Q X = wE P go a env st (fun x s => wBo x fun k => if k = true then Q (.v (.bl true)) s else wE P go b env s Q X) X := by
  unfold wE; conv => lhs; unfold evE
  rw [RX_bind]; congr; funext x s; cases x with
  | t l => rfl
  | v d => cases d with
    | bl k => cases k <;> rfl
    | _ => rfl
@[simp ↓] theorem wE_or_r : rho (wE P go (.or a b) env st Q X) = rho (wE P go a env st (fun x s => wBo x fun k => if k = true then Q (.v (.bl true)) s else wE P go b env s Q X) X) := congrArg rho (wE_or)
theorem wE_cmp {op : COp} : wE P go (.cmp op a b) env st Q X = wE P go a env st (fun x s => wE P go b env s (fun y s' => wC op x y s' fun k => Q (.v (.bl k)) s') X) X := by
  unfold wE; conv => lhs; unfold evE
  rw [RX_bind]; congr; funext x s; rw [RX_bind]; congr; funext y s'; rw [RX_of]; unfold wC; cases cmpD op x y s' <;> rfl
@[simp ↓] theorem wE_cmp_r {op : COp} : rho (wE P go (.cmp op a b) env st Q X) = rho (wE P go a env st (fun x s => wE P go b env s (fun y s' => wC op x y s' fun k => Q (.v (.bl k)) s') X) X) := congrArg rho (wE_cmp)
theorem wE_chain {o1 o2 : COp} : wE P go (.chain o1 o2 a b c) env st Q X = wE P go a env st (fun x s => wE P go b env s (fun y s' => wC o1 x y s' fun k => if k = true then wE P go c env s' (fun z s3 => wC o2 y z s3 fun k => Q (.v (.bl k)) s3) X else Q (.v (.bl false)) s') X) X := by
  unfold wE; conv => lhs; unfold evE
  rw [RX_bind]; congr; funext x s; rw [RX_bind]; congr; funext y s'; unfold wC
  cases cmpD o1 x y s' with
  | none => rfl
  | some k => cases k with
    | false => rfl
    | true =>
      show RX (R.bind _ _) Q X = RX _ _ X
      rw [RX_bind]; congr; funext z s3; rw [RX_of]; cases cmpD o2 y z s3 <;> rfl
@[simp ↓] theorem wE_chain_r {o1 o2 : COp} : rho (wE P go (.chain o1 o2 a b c) env st Q X) = rho (wE P go a env st (fun x s => wE P go b env s (fun y s' => wC o1 x y s' fun k => if k = true then wE P go c env s' (fun z s3 => wC o2 y z s3 fun k => Q (.v (.bl k)) s3) X else Q (.v (.bl false)) s') X) X) := congrArg rho (wE_chain)
theorem wE_tup : wE P go (.tup es) env st Q X = wEs P go es env st (fun xs s => wMs xs s fun ds s' => Q (.v (.tup ds)) s') X := by
  unfold wE wEs; conv => lhs; unfold evE
  rw [RX_bind]; rfl
@[simp ↓] theorem wE_tup_r : rho (wE P go (.tup es) env st Q X) = rho (wEs P go es env st (fun xs s => wMs xs s fun ds s' => Q (.v (.tup ds)) s') X) := congrArg rho (wE_tup)
theorem wE_lst : wE P go (.lst es) env st Q X = wEs P go es env st (fun xs s => wMs xs s fun ds s' => Q (.t ds) s') X := by
  unfold wE wEs; conv => lhs; unfold evE
  rw [RX_bind]; rfl
@[simp ↓] theorem wE_lst_r : rho (wE P go (.lst es) env st Q X) = rho (wEs P go es env st (fun xs s => wMs xs s fun ds s' => Q (.t ds) s') X) := congrArg rho (wE_lst)
theorem wE_idx : wE P go (.idx a b) env st Q X = wE P go a env st (fun x s => wE P go b env s (fun y s' => wIx x y s' fun d => Q (.v d) s') X) X := by
  unfold wE; conv => lhs; unfold evE
  rw [RX_bind]; congr; funext x s; rw [RX_bind]; congr; funext y s'; rw [RX_of]; unfold wIx; cases idxD x y s' <;> rfl
@[simp ↓] theorem wE_idx_r : rho (wE P go (.idx a b) env st Q X) = rho (wE P go a env st (fun x s => wE P go b env s (fun y s' => wIx x y s' fun d => Q (.v d) s') X) X) := congrArg rho (wE_idx)
theorem wE_sl {lo hi : Option E} : wE P go (.sl a lo hi) env st Q X = wE P go a env st (fun x s => wO P go lo env s (fun i s => wO P go hi env s (fun j s => wSl x i j s fun v => Q v s) X) X) X := by
  unfold wE; conv => lhs; unfold evE
  rw [RX_bind]; congr; funext x s; rw [RX_bind]; congr; funext y s'; rw [RX_bind]; congr; funext z s3; exact RX_of _ _ _ _
@[simp ↓] theorem wE_sl_r {lo hi : Option E} : rho (wE P go (.sl a lo hi) env st Q X) = rho (wE P go a env st (fun x s => wO P go lo env s (fun i s => wO P go hi env s (fun j s => wSl x i j s fun v => Q v s) X) X) X) := congrArg rho (wE_sl)
theorem wE_dnew : wE P go (.dct .nil .nil) env st Q X = Q (.v (.ref st.length)) (st ++ [.dic false []]) := rfl
@[simp ↓] theorem wE_dnew_r : rho (wE P go (.dct .nil .nil) env st Q X) = rho (Q (.v (.ref st.length)) (st ++ [.dic false []])) := congrArg rho (wE_dnew)
theorem wE_dlit {k : Str} : wE P go (.dct (.cons (.str k) .nil) (.cons (.int i) .nil)) env st Q X = Q (.v (.ref st.length)) (st ++ [.dic false [(.inr k, .int i)]]) := rfl
@[simp ↓] theorem wE_dlit_r {k : Str} : rho (wE P go (.dct (.cons (.str k) .nil) (.cons (.int i) .nil)) env st Q X) = rho (Q (.v (.ref st.length)) (st ++ [.dic false [(.inr k, .int i)]])) := congrArg rho (wE_dlit)
def wDc (s : Store) (x : Ev) (Q : List (L2.Key × D) → Prop) : Prop := wOf (dicE s x) Q
theorem wDc_ref {Q : List (L2.Key × D) → Prop} : wDc s (.v (.ref n)) Q = wDic s n fun _ kvs => Q kvs := by
  show wOf (match s[n]? with | some (.dic _ kvs) => some kvs | _ => none : Option (List (L2.Key × D))) Q = (match s[n]? with | some (.dic k kvs) => _ | _ => _)
  cases s[n]? with
  | none => rfl
  | some cc => cases cc <;> rfl
@[simp ↓] theorem wDc_ref_r {Q : List (L2.Key × D) → Prop} : rho (wDc s (.v (.ref n)) Q) = rho (wDic s n fun _ kvs => Q kvs) := congrArg rho (wDc_ref)
theorem wE_dcp : wE P go (.dcp a) env st Q X = wE P go a env st (fun x s => wDc s x fun kvs => Q (.v (.ref s.length)) (s ++ [.dic false kvs])) X := by
  unfold wE; conv => lhs; unfold evE
  rw [RX_bind]; congr; funext x s; unfold wDc; cases dicE s x <;> rfl
@[simp ↓] theorem wE_dcp_r : rho (wE P go (.dcp a) env st Q X) = rho (wE P go a env st (fun x s => wDc s x fun kvs => Q (.v (.ref s.length)) (s ++ [.dic false kvs])) X) := congrArg rho (wE_dcp)
theorem wO_none {Q : Option Int → Store → Prop} : wO P go none env st Q X = Q none st := rfl
@[simp ↓] theorem wO_none_r {Q : Option Int → Store → Prop} : rho (wO P go none env st Q X) = rho (Q none st) := congrArg rho (wO_none)
theorem wO_some {Q : Option Int → Store → Prop} : wO P go (some a) env st Q X = wE P go a env st (fun x s => wIn x fun i => Q (some i) s) X := by
  unfold wO wE; conv => lhs; unfold evO
  rw [RX_bind]; congr; funext x s; cases x with
  | t l => rfl
  | v d => cases d <;> rfl
@[simp ↓] theorem wO_some_r {Q : Option Int → Store → Prop} : rho (wO P go (some a) env st Q X) = rho (wE P go a env st (fun x s => wIn x fun i => Q (some i) s) X) := congrArg rho (wO_some)
theorem wE_bi {k : BI} : wE P go (.bi k es) env st Q X = wEs P go es env st (fun xs s => wBi k xs s fun v => Q v s) X := by
  unfold wE wEs; conv => lhs; unfold evE
  rw [RX_bind]; congr; funext x s; exact RX_of _ _ _ _
@[simp ↓] theorem wE_bi_r {k : BI} : rho (wE P go (.bi k es) env st Q X) = rho (wEs P go es env st (fun xs s => wBi k xs s fun v => Q v s) X) := congrArg rho (wE_bi)
theorem wE_isi {ts : List Ty} {o : Bool} : wE P go (.isi a ts o) env st Q X = wE P go a env st (fun x s => wIsi x ts s fun k => Q (.v (.bl k)) s) X := by
  unfold wE; conv => lhs; unfold evE
  rw [RX_bind]; congr; funext x s; unfold wIsi
  cases tyD x s with
  | none => rfl
  | some t =>
    show RX (R.of ((isiD t ts).map bV) s) Q X = wOf (isiD t ts) _
    rw [RX_of]
    cases isiD t ts <;> rfl
@[simp ↓] theorem wE_isi_r {ts : List Ty} {o : Bool} : rho (wE P go (.isi a ts o) env st Q X) = rho (wE P go a env st (fun x s => wIsi x ts s fun k => Q (.v (.bl k)) s) X) := congrArg rho (wE_isi)
theorem wE_call {f : Str} {fn : Fn} (hf : P.fns.lookup ((f, none) : Key) = some fn) (hd : fn.dfl = []) (hn : fn.np = esLen es) : wE P go (.call f es) env st Q X = wEs P go es env st (fun xs s => wMs xs s fun ds s' => wF go fn ds s' Q X) X := by
  unfold wE wEs; conv => lhs; unfold evE
  rw [hf]
  have ht : fn.takes (esLen es) = true := by unfold Fn.takes; rw [hd, hn]; simp
  have hu : ∀ ds, fn.full ds = ds := fun ds => by unfold Fn.full; rw [hd]; simp
  show RX (if fn.takes (esLen es) = true then _ else _) Q X = _
  rw [if_pos ht, RX_bind]
  simp only [hu]; rfl
theorem wE_mk {c : Str} {fn : Fn} (hf : P.fns.lookup ((c, some nInit) : Key) = some fn) (hd : fn.takes (esLen es + 1) = true) : wE P go (.mk c es) env st Q X = wEs P go es env st (fun xs s => wMs xs s fun ds s' => wF go fn (fn.full (.ref s'.length :: ds)) (s' ++ [.ins c []]) (fun v s3 => v = .v .non ∧ Q (.v (.ref s'.length)) s3) X) X := by
  unfold wE wEs; conv => lhs; unfold evE
  rw [hf]
  show RX (if fn.takes (esLen es + 1) = true then _ else _) Q X = _
  rw [if_pos hd, RX_bind]; congr; funext xs s
  unfold wMs wF
  simp only
  cases go fn (fn.full (.ref (mats xs s).2.length :: (mats xs s).1)) ((mats xs s).2 ++ [.ins c []]) with
  | stuck => rfl
  | ex c fs s3 => rfl
  | ok z s3 => cases z with
    | t l => exact propext ⟨fun h => h.elim, fun h => by cases h.1⟩
    | v d => cases d with
      | non => exact propext ⟨fun h => ⟨rfl, h⟩, fun h => h.2⟩
      | _ => exact propext ⟨fun h => h.elim, fun h => by cases h.1⟩
/-- a method's call, the class and the method known -/
theorem wE_meth {m : Str} : wE P go (.meth a m es) env st Q X = wE P go a env st (fun x s => wRef x fun n => wIns s n fun c fs => wOf (P.fns.lookup ((c, some m) : Key)) fun fn => fs.lookup m = none ∧ fn.takes (esLen es + 1) = true ∧ wEs P go es env s (fun xs s => wMs xs s fun ds s' => wF go fn (fn.full (.ref n :: ds)) s' Q X) X) X := by
  unfold wE; conv => lhs; unfold evE
  rw [RX_bind]; congr; funext x s; cases x with
  | t l => rfl
  | v d => cases d with
    | ref n =>
      show RX (match s[n]? with | some (.ins c fs) => (match P.fns.lookup (c, some m), fs.lookup m with | some fn, none => (if fn.takes (esLen es + 1) then (evEs P go es env s).bind fun xs st2 => go fn (fn.full (.ref n :: (mats xs st2).1)) (mats xs st2).2 else .stuck) | _, _ => .stuck) | _ => .stuck) Q X = (match s[n]? with | some (.ins c fs) => _ | _ => _)
      cases s[n]? with
      | none => rfl
      | some cc => cases cc with
        | lst l => rfl
        | dic _ _ => rfl
        | ins c fs =>
          simp only
          cases P.fns.lookup ((c, some m) : Key) with
          | none => rfl
          | some fn => cases fs.lookup m with
            | some d => exact propext ⟨fun h => h.elim, fun h => by cases h.1⟩
            | none =>
              simp only [wOf, true_and]
              by_cases h : fn.takes (esLen es + 1) = true
              · rw [if_pos h, RX_bind]; simp only [h, true_and]; rfl
              · rw [if_neg h]; exact propext ⟨fun z => z.elim, fun z => h z.1⟩
    | _ => rfl
theorem wE_glo {x : Str} : wE P go (.glo x) env st Q X = wOf (P.consts.lookup x) fun d => Q (.v d) st := by
  unfold wE; conv => lhs; unfold evE
  cases P.consts.lookup x <;> rfl
@[simp ↓] theorem wE_glo_r {x : Str} : rho (wE P go (.glo x) env st Q X) = rho (wOf (P.consts.lookup x) fun d => Q (.v d) st) := congrArg rho (wE_glo)
theorem wE_callD {f : Str} {fn : Fn} (hf : P.fns.lookup ((f, none) : Key) = some fn) (hd : fn.takes (esLen es) = true) : wE P go (.call f es) env st Q X = wEs P go es env st (fun xs s => wMs xs s fun ds s' => wF go fn (fn.full ds) s' Q X) X := by
  unfold wE wEs; conv => lhs; unfold evE
  rw [hf]
  show RX (if fn.takes (esLen es) = true then _ else _) Q X = _
  rw [if_pos hd, RX_bind]; rfl
theorem wE_fld {f : Str} : wE P go (.fld a f) env st Q X = wE P go a env st (fun x s => wRef x fun n => wIns s n fun c fs => flds.contains (c, f) = true ∧ wOf (fs.lookup f) fun d => Q (.v d) s) X := by
  unfold wE; conv => lhs; unfold evE
  rw [RX_bind]; congr; funext x s; cases x with
  | t l => rfl
  | v d => cases d with
    | ref n =>
      show RX (match s[n]? with | some (.ins c fs) => (if flds.contains (c, f) then (match fs.lookup f with | some d => R.ok (Ev.v d) s | none => R.stuck) else R.stuck) | _ => R.stuck) Q X = (match s[n]? with | some (.ins c fs) => _ | _ => _)
      cases s[n]? with
      | none => rfl
      | some cc => cases cc with
        | lst l => rfl
        | dic _ _ => rfl
        | ins c fs =>
          simp only
          by_cases h : flds.contains (c, f) = true
          · rw [if_pos h]
            cases fs.lookup f with
            | none => simp [wOf, RX]
            | some d => simp only [h, true_and]; rfl
          · rw [if_neg h]
            exact propext ⟨fun z => z.elim, fun z => (h z.1).elim⟩
    | _ => rfl
@[simp ↓] theorem wE_fld_r {f : Str} : rho (wE P go (.fld a f) env st Q X) = rho (wE P go a env st (fun x s => wRef x fun n => wIns s n fun c fs => flds.contains (c, f) = true ∧ wOf (fs.lookup f) fun d => Q (.v d) s) X) := congrArg rho (wE_fld)
theorem wE_bm {m : BM} : wE P go (.bm m a es) env st Q X = wE P go a env st (fun x s => wRc m x s (wEs P go es env s (fun xs s2 => wBm m x xs s2 Q) X)) X := by
  unfold wE wEs; conv => lhs; unfold evE
  rw [RX_bind]; congr; funext x s
  unfold wRc
  by_cases h : bmRecv m x s = true
  · rw [if_pos h, RX_bind]
    simp only [h, true_and]
    congr; funext xs s2
    unfold wBm
    cases q : bmD m x xs s2 with
    | ok v s3 => rfl
    | ex c fs s3 => exact absurd q bmD_noex
    | stuck => rfl
  · rw [if_neg h]
    exact propext ⟨fun z => z.elim, fun z => h z.1⟩
@[simp ↓] theorem wE_bm_r {m : BM} : rho (wE P go (.bm m a es) env st Q X) = rho (wE P go a env st (fun x s => wRc m x s (wEs P go es env s (fun xs s2 => wBm m x xs s2 Q) X)) X) := congrArg rho (wE_bm)
theorem wRc_lst {m : BM} {R : Prop} (hm : ∀ o st, bmRecv m o st = isLst o st) : wRc m (.v (.ref n)) s R = wGet s n fun _ => R := by
  unfold wRc wGet
  rw [hm]
  show ((match s[n]? with | some (.lst _) => true | _ => false) = true ∧ R) = _
  cases s[n]? with
  | none => simp
  | some cc => cases cc <;> simp
theorem wRc_append {R : Prop} : wRc .append (.v (.ref n)) s R = wGet s n fun _ => R := wRc_lst fun _ _ => rfl
@[simp ↓] theorem wRc_append_r {R : Prop} : rho (wRc .append (.v (.ref n)) s R) = rho (wGet s n fun _ => R) := congrArg rho (wRc_append)
theorem wRc_clear {R : Prop} : wRc .clear (.v (.ref n)) s R = wGet s n fun _ => R := wRc_lst fun _ _ => rfl
@[simp ↓] theorem wRc_clear_r {R : Prop} : rho (wRc .clear (.v (.ref n)) s R) = rho (wGet s n fun _ => R) := congrArg rho (wRc_clear)
theorem wRc_extend {R : Prop} : wRc .extend (.v (.ref n)) s R = wGet s n fun _ => R := wRc_lst fun _ _ => rfl
@[simp ↓] theorem wRc_extend_r {R : Prop} : rho (wRc .extend (.v (.ref n)) s R) = rho (wGet s n fun _ => R) := congrArg rho (wRc_extend)
theorem wRc_reverse {R : Prop} : wRc .reverse (.v (.ref n)) s R = wGet s n fun _ => R := wRc_lst fun _ _ => rfl
@[simp ↓] theorem wRc_reverse_r {R : Prop} : rho (wRc .reverse (.v (.ref n)) s R) = rho (wGet s n fun _ => R) := congrArg rho (wRc_reverse)
theorem wRc_insert {R : Prop} : wRc .insert (.v (.ref n)) s R = wGet s n fun _ => R := wRc_lst fun _ _ => rfl
@[simp ↓] theorem wRc_insert_r {R : Prop} : rho (wRc .insert (.v (.ref n)) s R) = rho (wGet s n fun _ => R) := congrArg rho (wRc_insert)
theorem wRc_pop {R : Prop} : wRc .pop (.v (.ref n)) s R = wGet s n fun _ => R := wRc_lst fun _ _ => rfl
@[simp ↓] theorem wRc_pop_r {R : Prop} : rho (wRc .pop (.v (.ref n)) s R) = rho (wGet s n fun _ => R) := congrArg rho (wRc_pop)
theorem wRc_index {R : Prop} : wRc .index (.v (.ref n)) s R = wGet s n fun _ => R := wRc_lst fun _ _ => rfl
@[simp ↓] theorem wRc_index_r {R : Prop} : rho (wRc .index (.v (.ref n)) s R) = rho (wGet s n fun _ => R) := congrArg rho (wRc_index)
theorem wRc_count {R : Prop} : wRc .count (.v (.ref n)) s R = wGet s n fun _ => R := wRc_lst fun _ _ => rfl
@[simp ↓] theorem wRc_count_r {R : Prop} : rho (wRc .count (.v (.ref n)) s R) = rho (wGet s n fun _ => R) := congrArg rho (wRc_count)
theorem wRc_index_t {R : Prop} : wRc .index (.t ds) s R = R := propext ⟨fun h => h.2, fun h => ⟨rfl, h⟩⟩
@[simp ↓] theorem wRc_index_t_r {R : Prop} : rho (wRc .index (.t ds) s R) = rho (R) := congrArg rho (wRc_index_t)
theorem wRc_count_t {R : Prop} : wRc .count (.t ds) s R = R := propext ⟨fun h => h.2, fun h => ⟨rfl, h⟩⟩
@[simp ↓] theorem wRc_count_t_r {R : Prop} : rho (wRc .count (.t ds) s R) = rho (R) := congrArg rho (wRc_count_t)
theorem wRc_split {x : Str} {R : Prop} : wRc .split (.v (.str x)) s R = R := propext ⟨fun h => h.2, fun h => ⟨rfl, h⟩⟩
@[simp ↓] theorem wRc_split_r {x : Str} {R : Prop} : rho (wRc .split (.v (.str x)) s R) = rho (R) := congrArg rho (wRc_split)
theorem wRc_join {x : Str} {R : Prop} : wRc .join (.v (.str x)) s R = R := propext ⟨fun h => h.2, fun h => ⟨rfl, h⟩⟩
@[simp ↓] theorem wRc_join_r {x : Str} {R : Prop} : rho (wRc .join (.v (.str x)) s R) = rho (R) := congrArg rho (wRc_join)
theorem wRc_find {x : Str} {R : Prop} : wRc .find (.v (.str x)) s R = R := propext ⟨fun h => h.2, fun h => ⟨rfl, h⟩⟩
@[simp ↓] theorem wRc_find_r {x : Str} {R : Prop} : rho (wRc .find (.v (.str x)) s R) = rho (R) := congrArg rho (wRc_find)
theorem wRc_dic {m : BM} {R : Prop} (hm : ∀ o st, bmRecv m o st = (dicW st o).isSome) : wRc m (.v (.ref n)) s R = wDic s n fun k _ => k = false ∧ R := by
  unfold wRc wDic
  rw [hm]
  show (Option.isSome (match s[n]? with | some (.dic false kvs) => some kvs | _ => none : Option (List (L2.Key × D))) = true ∧ R) = _
  cases s[n]? with
  | none => simp
  | some cc => cases cc with
    | dic k kvs => cases k <;> simp
    | _ => simp
theorem wRc_dpop {R : Prop} : wRc .dpop (.v (.ref n)) s R = wDic s n fun k _ => k = false ∧ R := wRc_dic fun _ _ => rfl
@[simp ↓] theorem wRc_dpop_r {R : Prop} : rho (wRc .dpop (.v (.ref n)) s R) = rho (wDic s n fun k _ => k = false ∧ R) := congrArg rho (wRc_dpop)
theorem wRc_get {R : Prop} : wRc .get (.v (.ref n)) s R = wDic s n fun k _ => k = false ∧ R := wRc_dic fun _ _ => rfl
@[simp ↓] theorem wRc_get_r {R : Prop} : rho (wRc .get (.v (.ref n)) s R) = rho (wDic s n fun k _ => k = false ∧ R) := congrArg rho (wRc_get)
theorem wBm_append {y : Ev} : wBm .append (.v (.ref n)) [y] s Q = wM y s fun d s3 => wGet s3 n fun ds => ds.length < lim ∧ Q (.v .non) (s3.set n (.lst (ds ++ [d]))) := by
  show RX (match (mat y s).2[n]? with | some (.lst ds) => (if ds.length < lim then R.ok (Ev.v D.non) ((mat y s).2.set n (.lst (ds ++ [(mat y s).1]))) else R.stuck) | _ => R.stuck) Q _ = (match (mat y s).2[n]? with | some (.lst ds) => _ | _ => _)
  cases (mat y s).2[n]? with
  | none => rfl
  | some cc => cases cc with
    | lst l =>
      simp only
      by_cases h : l.length < lim
      · simp only [h, if_true, true_and]; rfl
      · simp only [h, if_false, false_and]; rfl
    | _ => rfl
@[simp ↓] theorem wBm_append_r {y : Ev} : rho (wBm .append (.v (.ref n)) [y] s Q) = rho (wM y s fun d s3 => wGet s3 n fun ds => ds.length < lim ∧ Q (.v .non) (s3.set n (.lst (ds ++ [d])))) := congrArg rho (wBm_append)
theorem wBm_insert {y : Ev} : wBm .insert (.v (.ref n)) [.v (.int i), y] s Q = wM y s fun d s3 => wGet s3 n fun ds => (ds.length < lim ∧ 0 ≤ i ∧ i < 2 ^ 63) ∧ Q (.v .non) (s3.set n (.lst (ds.take i.toNat ++ [d] ++ ds.drop i.toNat))) := by
  show RX (match (mat y s).2[n]? with | some (.lst ds) => (if ds.length < lim ∧ 0 ≤ i ∧ i < 2 ^ 63 then R.ok (Ev.v D.non) ((mat y s).2.set n (.lst (ds.take i.toNat ++ [(mat y s).1] ++ ds.drop i.toNat))) else R.stuck) | _ => R.stuck) Q _ = (match (mat y s).2[n]? with | some (.lst ds) => _ | _ => _)
  cases (mat y s).2[n]? with
  | none => rfl
  | some cc => cases cc with
    | lst l =>
      simp only
      by_cases h : l.length < lim ∧ 0 ≤ i ∧ i < 2 ^ 63
      · rw [if_pos h]; simp only [h, true_and]; rfl
      · rw [if_neg h]; exact propext ⟨fun z => z.elim, fun z => h z.1⟩
    | _ => rfl
@[simp ↓] theorem wBm_insert_r {y : Ev} : rho (wBm .insert (.v (.ref n)) [.v (.int i), y] s Q) = rho (wM y s fun d s3 => wGet s3 n fun ds => (ds.length < lim ∧ 0 ≤ i ∧ i < 2 ^ 63) ∧ Q (.v .non) (s3.set n (.lst (ds.take i.toNat ++ [d] ++ ds.drop i.toNat)))) := congrArg rho (wBm_insert)
theorem wBm_extend_of {y : Ev} {es : List D} (h : lstW s y = some es) : wBm .extend (.v (.ref n)) [y] s Q = wGet s n fun ds => ds.length + es.length < lim ∧ Q (.v .non) (s.set n (.lst (ds ++ es))) := by
  show RX (match s[n]?, lstW s y with | some (.lst ds), some es => (if ds.length + es.length < lim then R.ok (Ev.v D.non) (s.set n (.lst (ds ++ es))) else R.stuck) | _, _ => R.stuck) Q _ = (match s[n]? with | some (.lst ds) => _ | _ => _)
  rw [h]
  cases s[n]? with
  | none => rfl
  | some cc => cases cc with
    | lst l =>
      simp only
      by_cases h : l.length + es.length < lim
      · simp only [h, if_true, true_and]; rfl
      · simp only [h, if_false, false_and]; rfl
    | _ => rfl
theorem wBm_extend_t : wBm .extend (.v (.ref n)) [.t ds] s Q = wGet s n fun es => es.length + ds.length < lim ∧ Q (.v .non) (s.set n (.lst (es ++ ds))) := wBm_extend_of rfl
@[simp ↓] theorem wBm_extend_t_r : rho (wBm .extend (.v (.ref n)) [.t ds] s Q) = rho (wGet s n fun es => es.length + ds.length < lim ∧ Q (.v .non) (s.set n (.lst (es ++ ds)))) := congrArg rho (wBm_extend_t)
theorem wBm_extend_r {m : Nat} : wBm .extend (.v (.ref n)) [.v (.ref m)] s Q = wGet s m fun ds => wGet s n fun es => es.length + ds.length < lim ∧ Q (.v .non) (s.set n (.lst (es ++ ds))) := by
  have no : lstW s (.v (.ref m)) = none → wBm .extend (.v (.ref n)) [.v (.ref m)] s Q = False := fun h => by
    show RX (match s[n]?, lstW s (.v (.ref m)) with | some (.lst ds), some es => (if ds.length + es.length < lim then R.ok (Ev.v D.non) (s.set n (.lst (ds ++ es))) else R.stuck) | _, _ => R.stuck) Q _ = _
    rw [h]
    cases s[n]? with
    | none => rfl
    | some cc => cases cc <;> rfl
  cases h : s[m]? with
  | none =>
    rw [no (by show (match s[m]? with | some (.lst ds) => some ds | _ => none) = none; rw [h])]
    unfold wGet; rw [h]
  | some cc => cases cc with
    | lst l =>
      rw [wBm_extend_of (es := l) (by show (match s[m]? with | some (.lst ds) => some ds | _ => none) = some l; rw [h])]
      conv => rhs; unfold wGet; rw [h]
      rfl
    | _ =>
      rw [no (by show (match s[m]? with | some (.lst ds) => some ds | _ => none) = none; rw [h])]
      unfold wGet; rw [h]
@[simp ↓] theorem wBm_extend_r_r {m : Nat} : rho (wBm .extend (.v (.ref n)) [.v (.ref m)] s Q) = rho (wGet s m fun ds => wGet s n fun es => es.length + ds.length < lim ∧ Q (.v .non) (s.set n (.lst (es ++ ds)))) := congrArg rho (wBm_extend_r)
theorem wBm_reverse : wBm .reverse (.v (.ref n)) [] s Q = wGet s n fun ds => Q (.v .non) (s.set n (.lst ds.reverse)) := by
  show RX (match s[n]? with | some (.lst ds) => R.ok (Ev.v D.non) (s.set n (.lst ds.reverse)) | _ => R.stuck) Q _ = (match s[n]? with | some (.lst ds) => _ | _ => _)
  cases s[n]? with
  | none => rfl
  | some cc => cases cc <;> rfl
@[simp ↓] theorem wBm_reverse_r : rho (wBm .reverse (.v (.ref n)) [] s Q) = rho (wGet s n fun ds => Q (.v .non) (s.set n (.lst ds.reverse))) := congrArg rho (wBm_reverse)
theorem wBm_clear : wBm .clear (.v (.ref n)) [] s Q = wGet s n fun ds => Q (.v .non) (s.set n (.lst [])) := by
  show RX (match s[n]? with | some (.lst _) => R.ok (Ev.v D.non) (s.set n (.lst [])) | _ => R.stuck) Q _ = (match s[n]? with | some (.lst ds) => _ | _ => _)
  cases s[n]? with
  | none => rfl
  | some cc => cases cc <;> rfl
@[simp ↓] theorem wBm_clear_r : rho (wBm .clear (.v (.ref n)) [] s Q) = rho (wGet s n fun ds => Q (.v .non) (s.set n (.lst []))) := congrArg rho (wBm_clear)
theorem wBm_pop : wBm .pop (.v (.ref n)) [] s Q = wGet s n fun ds => wOf ds[ds.length - 1]? fun d => Q (.v d) (s.set n (.lst ds.dropLast)) := by
  show RX (match s[n]? with | some (.lst ds) => (match ds[ds.length - 1]? with | some d => R.ok (Ev.v d) (s.set n (.lst ds.dropLast)) | none => R.stuck) | _ => R.stuck) Q _ = (match s[n]? with | some (.lst ds) => _ | _ => _)
  cases s[n]? with
  | none => rfl
  | some cc => cases cc with
    | lst l => simp only; cases l[l.length - 1]? <;> rfl
    | _ => rfl
@[simp ↓] theorem wBm_pop_r : rho (wBm .pop (.v (.ref n)) [] s Q) = rho (wGet s n fun ds => wOf ds[ds.length - 1]? fun d => Q (.v d) (s.set n (.lst ds.dropLast))) := congrArg rho (wBm_pop)
theorem wBm_split {x y : Str} : wBm .split (.v (.str x)) [.v (.str y)] s Q = (((y.length == 0) = false ∧ x.length < lim) ∧ Q (.t ((Txt.split x y).map .str)) s) := by
  show RX (if (y.length == 0) = false ∧ x.length < lim then R.ok (Ev.t ((Txt.split x y).map .str)) s else R.stuck) Q _ = _
  by_cases h : (y.length == 0) = false ∧ x.length < lim
  · rw [if_pos h]; simp only [h, true_and]; simp [RX]
  · rw [if_neg h]; exact propext ⟨fun z => z.elim, fun z => h z.1⟩
@[simp ↓] theorem wBm_split_r {x y : Str} : rho (wBm .split (.v (.str x)) [.v (.str y)] s Q) = rho ((((y.length == 0) = false ∧ x.length < lim) ∧ Q (.t ((Txt.split x y).map .str)) s)) := congrArg rho (wBm_split)
theorem wBm_find {x y : Str} : wBm .find (.v (.str x)) [.v (.str y)] s Q = Q (.v (.int (Txt.find x y))) s := rfl
@[simp ↓] theorem wBm_find_r {x y : Str} : rho (wBm .find (.v (.str x)) [.v (.str y)] s Q) = rho (Q (.v (.int (Txt.find x y))) s) := congrArg rho (wBm_find)
theorem wBm_join {x : Str} {y : Ev} {ys : List Str} (h : (items s y).bind strsOf = some ys) (hl : (ys.map (·.length)).sum + ys.length * x.length ≤ 16777216) : wBm .join (.v (.str x)) [y] s Q = Q (.v (.str (Txt.join x ys))) s := by
  show RX (match (items s y).bind strsOf with | some ys => (if (ys.map (·.length)).sum + ys.length * x.length ≤ 16777216 then R.ok (Ev.v (.str (Txt.join x ys))) s else R.stuck) | none => R.stuck) Q _ = _
  rw [h]; simp only; rw [if_pos hl]; rfl
theorem wBm_index {x : Ev} {k : Nat} (h : lstE s x = some ds) (hf : (flatD d && ds.all flatD) = true) (hk : idxOf (fun z => eqB 0 s z d) ds = some k) : wBm .index x [.v d] s Q = Q (.v (.int k)) s := by
  show RX (match lstE s x with | some ds => (if flatD d && ds.all flatD then (match idxOf (fun z => eqB 0 s z d) ds with | some k => R.ok (Ev.v (.int (k : Nat))) s | none => R.stuck) else R.stuck) | none => R.stuck) Q _ = _
  rw [h]; simp only; rw [if_pos hf, hk]; rfl
theorem wBm_count {x : Ev} (h : lstE s x = some ds) (hf : (flatD d && ds.all flatD) = true) : wBm .count x [.v d] s Q = Q (.v (.int (ds.countP (fun z => eqB 0 s z d) : Nat))) s := by
  show RX (match lstE s x with | some ds => (if flatD d && ds.all flatD then R.ok (Ev.v (.int (ds.countP (fun z => eqB 0 s z d) : Nat))) s else R.stuck) | none => R.stuck) Q _ = _
  rw [h]; simp only; rw [if_pos hf]; rfl
theorem wBm_dpop {k : L2.Key} (h : dkey d = some k) : wBm .dpop (.v (.ref n)) [.v d] s Q = wDic s n fun b kvs => b = false ∧ wDg kvs k fun v => Q (.v v) (s.set n (.dic false (dDrop kvs k))) := by
  show RX (match s[n]?, dkey d with | some (.dic false kvs), some k => (match dGet kvs k with | some d => R.ok (Ev.v d) (s.set n (.dic false (dDrop kvs k))) | none => R.stuck) | _, _ => R.stuck) Q _ = (match s[n]? with | some (.dic k kvs) => _ | _ => _)
  rw [h]
  cases s[n]? with
  | none => rfl
  | some cc => cases cc with
    | dic b kvs => cases b with
      | true => simp [RX]
      | false => simp only [true_and]; unfold wDg; cases dGet kvs k <;> rfl
    | _ => rfl
theorem wBm_dpopI : wBm .dpop (.v (.ref n)) [.v (.int i)] s Q = wDic s n fun b kvs => b = false ∧ wDg kvs (.inl i) fun v => Q (.v v) (s.set n (.dic false (dDrop kvs (.inl i)))) := wBm_dpop rfl
@[simp ↓] theorem wBm_dpopI_r : rho (wBm .dpop (.v (.ref n)) [.v (.int i)] s Q) = rho (wDic s n fun b kvs => b = false ∧ wDg kvs (.inl i) fun v => Q (.v v) (s.set n (.dic false (dDrop kvs (.inl i))))) := congrArg rho (wBm_dpopI)
theorem wBm_dpopS {x : Str} : wBm .dpop (.v (.ref n)) [.v (.str x)] s Q = wDic s n fun b kvs => b = false ∧ wDg kvs (.inr x) fun v => Q (.v v) (s.set n (.dic false (dDrop kvs (.inr x)))) := wBm_dpop rfl
@[simp ↓] theorem wBm_dpopS_r {x : Str} : rho (wBm .dpop (.v (.ref n)) [.v (.str x)] s Q) = rho (wDic s n fun b kvs => b = false ∧ wDg kvs (.inr x) fun v => Q (.v v) (s.set n (.dic false (dDrop kvs (.inr x))))) := congrArg rho (wBm_dpopS)
def wGd (o : Option D) (y : Ev) (Q : Ev → Prop) : Prop := match o with
  | some d => Q (.v d)
  | none => Q y
theorem wGd_some {y : Ev} {Q : Ev → Prop} : wGd (some d) y Q = Q (.v d) := rfl
@[simp ↓] theorem wGd_some_r {y : Ev} {Q : Ev → Prop} : rho (wGd (some d) y Q) = rho (Q (.v d)) := congrArg rho (wGd_some)
theorem wGd_none {y : Ev} {Q : Ev → Prop} : wGd none y Q = Q y := rfl
@[simp ↓] theorem wGd_none_r {y : Ev} {Q : Ev → Prop} : rho (wGd none y Q) = rho (Q y) := congrArg rho (wGd_none)
theorem wBm_get {k : L2.Key} {y : Ev} (h : dkey d = some k) : wBm .get (.v (.ref n)) [.v d, y] s Q = wDic s n fun _ kvs => wGd (dGet kvs k) y fun v => Q v s := by
  show RX (match dicE s (.v (.ref n)), dkey d with | some kvs, some k => (match dGet kvs k with | some d => R.ok (Ev.v d) s | none => R.ok y s) | _, _ => R.stuck) Q _ = (match s[n]? with | some (.dic k kvs) => _ | _ => _)
  rw [h]
  have e : dicE s (.v (.ref n)) = (match s[n]? with | some (.dic _ kvs) => some kvs | _ => none) := rfl
  rw [e]
  cases s[n]? with
  | none => rfl
  | some cc => cases cc with
    | dic b kvs => simp only; unfold wGd; cases dGet kvs k <;> rfl
    | _ => rfl
theorem wBm_getI {y : Ev} : wBm .get (.v (.ref n)) [.v (.int i), y] s Q = wDic s n fun _ kvs => wGd (dGet kvs (.inl i)) y fun v => Q v s := wBm_get rfl
@[simp ↓] theorem wBm_getI_r {y : Ev} : rho (wBm .get (.v (.ref n)) [.v (.int i), y] s Q) = rho (wDic s n fun _ kvs => wGd (dGet kvs (.inl i)) y fun v => Q v s) := congrArg rho (wBm_getI)
theorem wBm_getS {x : Str} {y : Ev} : wBm .get (.v (.ref n)) [.v (.str x), y] s Q = wDic s n fun _ kvs => wGd (dGet kvs (.inr x)) y fun v => Q v s := wBm_get rfl
@[simp ↓] theorem wBm_getS_r {x : Str} {y : Ev} : rho (wBm .get (.v (.ref n)) [.v (.str x), y] s Q) = rho (wDic s n fun _ kvs => wGd (dGet kvs (.inr x)) y fun v => Q v s) := congrArg rho (wBm_getS)
theorem wEs_nil {Q : List Ev → Store → Prop} : wEs P go .nil env st Q X = Q [] st := rfl
@[simp ↓] theorem wEs_nil_r {Q : List Ev → Store → Prop} : rho (wEs P go .nil env st Q X) = rho (Q [] st) := congrArg rho (wEs_nil)
theorem wEs_cons {Q : List Ev → Store → Prop} : wEs P go (.cons a es) env st Q X = wE P go a env st (fun x s => wEs P go es env s (fun xs s' => Q (x :: xs) s') X) X := by
  unfold wEs wE; conv => lhs; unfold evEs
  rw [RX_bind]; congr; funext x s; rw [RX_bind]; rfl
@[simp ↓] theorem wEs_cons_r {Q : List Ev → Store → Prop} : rho (wEs P go (.cons a es) env st Q X) = rho (wE P go a env st (fun x s => wEs P go es env s (fun xs s' => Q (x :: xs) s') X) X) := congrArg rho (wEs_cons)
theorem wM_v {Q : D → Store → Prop} : wM (.v d) s Q = Q d s := rfl
@[simp ↓] theorem wM_v_r {Q : D → Store → Prop} : rho (wM (.v d) s Q) = rho (Q d s) := congrArg rho (wM_v)
theorem wM_t {Q : D → Store → Prop} : wM (.t ds) s Q = Q (.ref s.length) (s ++ [.lst ds]) := rfl
@[simp ↓] theorem wM_t_r {Q : D → Store → Prop} : rho (wM (.t ds) s Q) = rho (Q (.ref s.length) (s ++ [.lst ds])) := congrArg rho (wM_t)
theorem wMs_nil {Q : List D → Store → Prop} : wMs [] s Q = Q [] s := rfl
@[simp ↓] theorem wMs_nil_r {Q : List D → Store → Prop} : rho (wMs [] s Q) = rho (Q [] s) := congrArg rho (wMs_nil)
theorem wMs_v {xs : List Ev} {Q : List D → Store → Prop} : wMs (.v d :: xs) s Q = wMs xs s fun ds s' => Q (d :: ds) s' := rfl
@[simp ↓] theorem wMs_v_r {xs : List Ev} {Q : List D → Store → Prop} : rho (wMs (.v d :: xs) s Q) = rho (wMs xs s fun ds s' => Q (d :: ds) s') := congrArg rho (wMs_v)
theorem wMs_t {xs : List Ev} {Q : List D → Store → Prop} : wMs (.t ds :: xs) s Q = wMs xs (s ++ [.lst ds]) fun ds' s' => Q (.ref s.length :: ds') s' := rfl
@[simp ↓] theorem wMs_t_r {xs : List Ev} {Q : List D → Store → Prop} : rho (wMs (.t ds :: xs) s Q) = rho (wMs xs (s ++ [.lst ds]) fun ds' s' => Q (.ref s.length :: ds') s') := congrArg rho (wMs_t)
theorem wBo_bl {k : Bool} {Q : Bool → Prop} : wBo (.v (.bl k)) Q = Q k := rfl
@[simp ↓] theorem wBo_bl_r {k : Bool} {Q : Bool → Prop} : rho (wBo (.v (.bl k)) Q) = rho (Q k) := congrArg rho (wBo_bl)
theorem wIn_int {Q : Int → Prop} : wIn (.v (.int i)) Q = Q i := rfl
@[simp ↓] theorem wIn_int_r {Q : Int → Prop} : rho (wIn (.v (.int i)) Q) = rho (Q i) := congrArg rho (wIn_int)
theorem wRef_ref {Q : Nat → Prop} : wRef (.v (.ref n)) Q = Q n := rfl
@[simp ↓] theorem wRef_ref_r {Q : Nat → Prop} : rho (wRef (.v (.ref n)) Q) = rho (Q n) := congrArg rho (wRef_ref)
theorem wTr_bl {k : Bool} {Q : Bool → Prop} : wTr (.v (.bl k)) s Q = Q k := rfl
@[simp ↓] theorem wTr_bl_r {k : Bool} {Q : Bool → Prop} : rho (wTr (.v (.bl k)) s Q) = rho (Q k) := congrArg rho (wTr_bl)
theorem wTr_non {Q : Bool → Prop} : wTr (.v .non) s Q = Q false := rfl
@[simp ↓] theorem wTr_non_r {Q : Bool → Prop} : rho (wTr (.v .non) s Q) = rho (Q false) := congrArg rho (wTr_non)
theorem wTr_int {Q : Bool → Prop} : wTr (.v (.int i)) s Q = Q (i != 0) := rfl
@[simp ↓] theorem wTr_int_r {Q : Bool → Prop} : rho (wTr (.v (.int i)) s Q) = rho (Q (i != 0)) := congrArg rho (wTr_int)
theorem wTr_t {Q : Bool → Prop} : wTr (.t ds) s Q = Q (!ds.isEmpty) := rfl
@[simp ↓] theorem wTr_t_r {Q : Bool → Prop} : rho (wTr (.t ds) s Q) = rho (Q (!ds.isEmpty)) := congrArg rho (wTr_t)
theorem wTr_tup {Q : Bool → Prop} : wTr (.v (.tup ds)) s Q = Q (!ds.isEmpty) := rfl
@[simp ↓] theorem wTr_tup_r {Q : Bool → Prop} : rho (wTr (.v (.tup ds)) s Q) = rho (Q (!ds.isEmpty)) := congrArg rho (wTr_tup)
theorem wTr_ref {Q : Bool → Prop} : wTr (.v (.ref n)) s Q = wGet s n fun ds => Q (!ds.isEmpty) := by
  show wOf ((match s[n]? with | some (.lst ds) => some ds | _ => none : Option (List D)).map _) Q = (match s[n]? with | some (.lst ds) => _ | _ => _)
  cases s[n]? with
  | none => rfl
  | some cc => cases cc <;> rfl
@[simp ↓] theorem wTr_ref_r {Q : Bool → Prop} : rho (wTr (.v (.ref n)) s Q) = rho (wGet s n fun ds => Q (!ds.isEmpty)) := congrArg rho (wTr_ref)
theorem wIt_t {Q : List D → Prop} : wIt s (.t ds) Q = Q ds := rfl
@[simp ↓] theorem wIt_t_r {Q : List D → Prop} : rho (wIt s (.t ds) Q) = rho (Q ds) := congrArg rho (wIt_t)
theorem wIt_tup {Q : List D → Prop} : wIt s (.v (.tup ds)) Q = Q ds := rfl
@[simp ↓] theorem wIt_tup_r {Q : List D → Prop} : rho (wIt s (.v (.tup ds)) Q) = rho (Q ds) := congrArg rho (wIt_tup)
theorem wIt_ro {Q : List D → Prop} : wIt s (.v (.ro ds)) Q = Q ds := rfl
@[simp ↓] theorem wIt_ro_r {Q : List D → Prop} : rho (wIt s (.v (.ro ds)) Q) = rho (Q ds) := congrArg rho (wIt_ro)
theorem wIt_ref {Q : List D → Prop} : wIt s (.v (.ref n)) Q = wGet s n Q := by
  show wOf (match s[n]? with | some (.lst ds) => some ds | _ => none : Option (List D)) Q = (match s[n]? with | some (.lst ds) => _ | _ => _)
  cases s[n]? with
  | none => rfl
  | some cc => cases cc <;> rfl
@[simp ↓] theorem wIt_ref_r {Q : List D → Prop} : rho (wIt s (.v (.ref n)) Q) = rho (wGet s n Q) := congrArg rho (wIt_ref)
theorem wLs_t {Q : List D → Prop} : wLs s (.t ds) Q = Q ds := rfl
@[simp ↓] theorem wLs_t_r {Q : List D → Prop} : rho (wLs s (.t ds) Q) = rho (Q ds) := congrArg rho (wLs_t)
theorem wLs_ro {Q : List D → Prop} : wLs s (.v (.ro ds)) Q = Q ds := rfl
@[simp ↓] theorem wLs_ro_r {Q : List D → Prop} : rho (wLs s (.v (.ro ds)) Q) = rho (Q ds) := congrArg rho (wLs_ro)
theorem wLs_ref {Q : List D → Prop} : wLs s (.v (.ref n)) Q = wGet s n Q := wIt_ref
@[simp ↓] theorem wLs_ref_r {Q : List D → Prop} : rho (wLs s (.v (.ref n)) Q) = rho (wGet s n Q) := congrArg rho (wLs_ref)
theorem wGet_of {Q : List D → Prop} (h : s[n]? = some (.lst ds)) : wGet s n Q = Q ds := by unfold wGet; rw [h]
theorem wIns_of {k : Str} {fs : List (Str × D)} {Q : Str → List (Str × D) → Prop} (h : s[n]? = some (.ins k fs)) : wIns s n Q = Q k fs := by unfold wIns; rw [h]
theorem wCl_of {c : Cell} {Q : Cell → Prop} (h : s[n]? = some c) : wCl s n Q = Q c := by unfold wCl; rw [h]
theorem wDic_of {k : Bool} {kvs : List (L2.Key × D)} {Q : Bool → List (L2.Key × D) → Prop} (h : s[n]? = some (.dic k kvs)) : wDic s n Q = Q k kvs := by unfold wDic; rw [h]
theorem wVl_v {Q : D → Prop} : wVl (.v d) Q = Q d := rfl
@[simp ↓] theorem wVl_v_r {Q : D → Prop} : rho (wVl (.v d) Q) = rho (Q d) := congrArg rho (wVl_v)
theorem wStr_str {x : Str} {Q : Str → Prop} : wStr (.v (.str x)) Q = Q x := rfl
@[simp ↓] theorem wStr_str_r {x : Str} {Q : Str → Prop} : rho (wStr (.v (.str x)) Q) = rho (Q x) := congrArg rho (wStr_str)
theorem wIx_t {Q : D → Prop} : wIx (.t ds) (.v (.int i)) s Q = wAt ds i Q := rfl
@[simp ↓] theorem wIx_t_r {Q : D → Prop} : rho (wIx (.t ds) (.v (.int i)) s Q) = rho (wAt ds i Q) := congrArg rho (wIx_t)
theorem wIx_tup {Q : D → Prop} : wIx (.v (.tup ds)) (.v (.int i)) s Q = wAt ds i Q := rfl
@[simp ↓] theorem wIx_tup_r {Q : D → Prop} : rho (wIx (.v (.tup ds)) (.v (.int i)) s Q) = rho (wAt ds i Q) := congrArg rho (wIx_tup)
theorem wIx_ro {Q : D → Prop} : wIx (.v (.ro ds)) (.v (.int i)) s Q = wAt ds i Q := rfl
@[simp ↓] theorem wIx_ro_r {Q : D → Prop} : rho (wIx (.v (.ro ds)) (.v (.int i)) s Q) = rho (wAt ds i Q) := congrArg rho (wIx_ro)
theorem wIx_ref {Q : D → Prop} : wIx (.v (.ref n)) (.v d) s Q = wCl s n fun c => wIxC c d Q := by
  have e : idxD (.v (.ref n)) (.v d) s = (match dicE s (.v (.ref n)) with | some kvs => (dkey d).bind (dGet kvs) | none => (match items s (.v (.ref n)), d with | some ds, .int i => atD ds i | _, _ => none)) := rfl
  have e1 : dicE s (.v (.ref n)) = (match s[n]? with | some (.dic _ kvs) => some kvs | _ => none) := rfl
  have e2 : items s (.v (.ref n)) = (match s[n]? with | some (.lst ds) => some ds | _ => none) := rfl
  unfold wIx wCl
  rw [e, e1, e2]
  cases s[n]? with
  | none => rfl
  | some cc => cases cc with
    | lst l => cases d <;> rfl
    | ins c fs => rfl
    | dic b kvs => rfl
@[simp ↓] theorem wIx_ref_r {Q : D → Prop} : rho (wIx (.v (.ref n)) (.v d) s Q) = rho (wCl s n fun c => wIxC c d Q) := congrArg rho (wIx_ref)
theorem wIxC_lst {Q : D → Prop} : wIxC (.lst ds) (.int i) Q = wAt ds i Q := rfl
@[simp ↓] theorem wIxC_lst_r {Q : D → Prop} : rho (wIxC (.lst ds) (.int i) Q) = rho (wAt ds i Q) := congrArg rho (wIxC_lst)
theorem wIxC_dicI {k : Bool} {kvs : List (L2.Key × D)} {Q : D → Prop} : wIxC (.dic k kvs) (.int i) Q = wDg kvs (.inl i) Q := rfl
@[simp ↓] theorem wIxC_dicI_r {k : Bool} {kvs : List (L2.Key × D)} {Q : D → Prop} : rho (wIxC (.dic k kvs) (.int i) Q) = rho (wDg kvs (.inl i) Q) := congrArg rho (wIxC_dicI)
theorem wIxC_dicS {k : Bool} {x : Str} {kvs : List (L2.Key × D)} {Q : D → Prop} : wIxC (.dic k kvs) (.str x) Q = wDg kvs (.inr x) Q := rfl
@[simp ↓] theorem wIxC_dicS_r {k : Bool} {x : Str} {kvs : List (L2.Key × D)} {Q : D → Prop} : rho (wIxC (.dic k kvs) (.str x) Q) = rho (wDg kvs (.inr x) Q) := congrArg rho (wIxC_dicS)
theorem wIx_str {x : Str} {c : Nat} {Q : D → Prop} (hl : x.length < lim) (h : L2.atI x.cps.toList i = some c) : wIx (.v (.str x)) (.v (.int i)) s Q = Q (.str ⟨#[c]⟩) := by
  show wOf (if x.length < lim then (L2.atI x.cps.toList i).map fun c => D.str ⟨#[c]⟩ else none) Q = _
  rw [if_pos hl, h]; rfl
theorem wDg_of {kvs : List (L2.Key × D)} {k : L2.Key} {Q : D → Prop} (h : dGet kvs k = some d) : wDg kvs k Q = Q d := by unfold wDg; rw [h]; rfl
theorem wSl_t {lo hi : Option Int} {Q : Ev → Prop} : wSl (.t ds) lo hi s Q = Q (.t (slD ds lo hi)) := rfl
@[simp ↓] theorem wSl_t_r {lo hi : Option Int} {Q : Ev → Prop} : rho (wSl (.t ds) lo hi s Q) = rho (Q (.t (slD ds lo hi))) := congrArg rho (wSl_t)
theorem wSl_ro {lo hi : Option Int} {Q : Ev → Prop} : wSl (.v (.ro ds)) lo hi s Q = Q (.t (slD ds lo hi)) := rfl
@[simp ↓] theorem wSl_ro_r {lo hi : Option Int} {Q : Ev → Prop} : rho (wSl (.v (.ro ds)) lo hi s Q) = rho (Q (.t (slD ds lo hi))) := congrArg rho (wSl_ro)
theorem wSl_tup {lo hi : Option Int} {Q : Ev → Prop} : wSl (.v (.tup ds)) lo hi s Q = Q (.v (.tup (slD ds lo hi))) := rfl
@[simp ↓] theorem wSl_tup_r {lo hi : Option Int} {Q : Ev → Prop} : rho (wSl (.v (.tup ds)) lo hi s Q) = rho (Q (.v (.tup (slD ds lo hi)))) := congrArg rho (wSl_tup)
theorem wSl_ref {lo hi : Option Int} {Q : Ev → Prop} : wSl (.v (.ref n)) lo hi s Q = wGet s n fun ds => Q (.t (slD ds lo hi)) := by
  show wOf ((match s[n]? with | some (.lst ds) => some ds | _ => none : Option (List D)).map _) Q = (match s[n]? with | some (.lst ds) => _ | _ => _)
  cases s[n]? with
  | none => rfl
  | some cc => cases cc <;> rfl
@[simp ↓] theorem wSl_ref_r {lo hi : Option Int} {Q : Ev → Prop} : rho (wSl (.v (.ref n)) lo hi s Q) = rho (wGet s n fun ds => Q (.t (slD ds lo hi))) := congrArg rho (wSl_ref)
theorem wSl_str {x : Str} {lo hi : Option Int} {Q : Ev → Prop} : wSl (.v (.str x)) lo hi s Q = (x.length < lim ∧ Q (.v (.str (L2.cutS x lo hi)))) := by
  show wOf (if x.length < lim then some (Ev.v (.str (L2.cutS x lo hi))) else none) Q = _
  by_cases h : x.length < lim
  · rw [if_pos h]; simp only [h, true_and]; rfl
  · rw [if_neg h]; simp only [h, false_and]; rfl
@[simp ↓] theorem wSl_str_r {x : Str} {lo hi : Option Int} {Q : Ev → Prop} : rho (wSl (.v (.str x)) lo hi s Q) = rho ((x.length < lim ∧ Q (.v (.str (L2.cutS x lo hi))))) := congrArg rho (wSl_str)
theorem wAt_of {Q : D → Prop} (h : atD ds i = some d) : wAt ds i Q = Q d := by unfold wAt; rw [h]; rfl

theorem wAt_0 {Q : D → Prop} : wAt (d :: ds) 0 Q = Q d := by
  exact wAt_of (L2.atI_nat (j := 0) rfl)
@[simp ↓] theorem wAt_0_r {Q : D → Prop} : rho (wAt (d :: ds) 0 Q) = rho (Q d) := congrArg rho (wAt_0)
theorem wAt_1 {x0 : D} {Q : D → Prop} : wAt (x0 :: d :: ds) 1 Q = Q d := by
  exact wAt_of (L2.atI_nat (j := 1) rfl)
@[simp ↓] theorem wAt_1_r {x0 : D} {Q : D → Prop} : rho (wAt (x0 :: d :: ds) 1 Q) = rho (Q d) := congrArg rho (wAt_1)
theorem wAt_2 {x0 x1 : D} {Q : D → Prop} : wAt (x0 :: x1 :: d :: ds) 2 Q = Q d := by
  exact wAt_of (L2.atI_nat (j := 2) rfl)
@[simp ↓] theorem wAt_2_r {x0 x1 : D} {Q : D → Prop} : rho (wAt (x0 :: x1 :: d :: ds) 2 Q) = rho (Q d) := congrArg rho (wAt_2)
theorem wAt_3 {x0 x1 x2 : D} {Q : D → Prop} : wAt (x0 :: x1 :: x2 :: d :: ds) 3 Q = Q d := by
  exact wAt_of (L2.atI_nat (j := 3) rfl)
@[simp ↓] theorem wAt_3_r {x0 x1 x2 : D} {Q : D → Prop} : rho (wAt (x0 :: x1 :: x2 :: d :: ds) 3 Q) = rho (Q d) := congrArg rho (wAt_3)
theorem wAt_4 {x0 x1 x2 x3 : D} {Q : D → Prop} : wAt (x0 :: x1 :: x2 :: x3 :: d :: ds) 4 Q = Q d := by
  exact wAt_of (L2.atI_nat (j := 4) rfl)
@[simp ↓] theorem wAt_4_r {x0 x1 x2 x3 : D} {Q : D → Prop} : rho (wAt (x0 :: x1 :: x2 :: x3 :: d :: ds) 4 Q) = rho (Q d) := congrArg rho (wAt_4)
theorem wAt_5 {x0 x1 x2 x3 x4 : D} {Q : D → Prop} : wAt (x0 :: x1 :: x2 :: x3 :: x4 :: d :: ds) 5 Q = Q d := by
  exact wAt_of (L2.atI_nat (j := 5) rfl)
@[simp ↓] theorem wAt_5_r {x0 x1 x2 x3 x4 : D} {Q : D → Prop} : rho (wAt (x0 :: x1 :: x2 :: x3 :: x4 :: d :: ds) 5 Q) = rho (Q d) := congrArg rho (wAt_5)
theorem wAt_6 {x0 x1 x2 x3 x4 x5 : D} {Q : D → Prop} : wAt (x0 :: x1 :: x2 :: x3 :: x4 :: x5 :: d :: ds) 6 Q = Q d := by
  exact wAt_of (L2.atI_nat (j := 6) rfl)
@[simp ↓] theorem wAt_6_r {x0 x1 x2 x3 x4 x5 : D} {Q : D → Prop} : rho (wAt (x0 :: x1 :: x2 :: x3 :: x4 :: x5 :: d :: ds) 6 Q) = rho (Q d) := congrArg rho (wAt_6)
theorem wAt_7 {x0 x1 x2 x3 x4 x5 x6 : D} {Q : D → Prop} : wAt (x0 :: x1 :: x2 :: x3 :: x4 :: x5 :: x6 :: d :: ds) 7 Q = Q d := by
  exact wAt_of (L2.atI_nat (j := 7) rfl)
@[simp ↓] theorem wAt_7_r {x0 x1 x2 x3 x4 x5 x6 : D} {Q : D → Prop} : rho (wAt (x0 :: x1 :: x2 :: x3 :: x4 :: x5 :: x6 :: d :: ds) 7 Q) = rho (Q d) := congrArg rho (wAt_7)
theorem wE_loc0 : wE P go (.loc 0) (some d :: env) st Q X = Q (.v d) st := rfl
@[simp ↓] theorem wE_loc0_r : rho (wE P go (.loc 0) (some d :: env) st Q X) = rho (Q (.v d) st) := congrArg rho (wE_loc0)
theorem wS_asg0 {y : Option D} : wS P go (.asg 0 e) (y :: env) st N T XX = wE P go e (y :: env) st (fun v s => wM v s fun d s2 => N (some d :: env) s2) (fun c fs s => XX c fs (y :: env) s) := by
  unfold wS wE; conv => lhs; unfold exS
  rw [OX_out]; rfl
@[simp ↓] theorem wS_asg0_r {y : Option D} : rho (wS P go (.asg 0 e) (y :: env) st N T XX) = rho (wE P go e (y :: env) st (fun v s => wM v s fun d s2 => N (some d :: env) s2) (fun c fs s => XX c fs (y :: env) s)) := congrArg rho (wS_asg0)
theorem wE_loc1 {x0 : Option D} : wE P go (.loc 1) (x0 :: some d :: env) st Q X = Q (.v d) st := rfl
@[simp ↓] theorem wE_loc1_r {x0 : Option D} : rho (wE P go (.loc 1) (x0 :: some d :: env) st Q X) = rho (Q (.v d) st) := congrArg rho (wE_loc1)
theorem wS_asg1 {x0 : Option D} {y : Option D} : wS P go (.asg 1 e) (x0 :: y :: env) st N T XX = wE P go e (x0 :: y :: env) st (fun v s => wM v s fun d s2 => N (x0 :: some d :: env) s2) (fun c fs s => XX c fs (x0 :: y :: env) s) := by
  unfold wS wE; conv => lhs; unfold exS
  rw [OX_out]; rfl
@[simp ↓] theorem wS_asg1_r {x0 : Option D} {y : Option D} : rho (wS P go (.asg 1 e) (x0 :: y :: env) st N T XX) = rho (wE P go e (x0 :: y :: env) st (fun v s => wM v s fun d s2 => N (x0 :: some d :: env) s2) (fun c fs s => XX c fs (x0 :: y :: env) s)) := congrArg rho (wS_asg1)
theorem wE_loc2 {x0 x1 : Option D} : wE P go (.loc 2) (x0 :: x1 :: some d :: env) st Q X = Q (.v d) st := rfl
@[simp ↓] theorem wE_loc2_r {x0 x1 : Option D} : rho (wE P go (.loc 2) (x0 :: x1 :: some d :: env) st Q X) = rho (Q (.v d) st) := congrArg rho (wE_loc2)
theorem wS_asg2 {x0 x1 : Option D} {y : Option D} : wS P go (.asg 2 e) (x0 :: x1 :: y :: env) st N T XX = wE P go e (x0 :: x1 :: y :: env) st (fun v s => wM v s fun d s2 => N (x0 :: x1 :: some d :: env) s2) (fun c fs s => XX c fs (x0 :: x1 :: y :: env) s) := by
  unfold wS wE; conv => lhs; unfold exS
  rw [OX_out]; rfl
@[simp ↓] theorem wS_asg2_r {x0 x1 : Option D} {y : Option D} : rho (wS P go (.asg 2 e) (x0 :: x1 :: y :: env) st N T XX) = rho (wE P go e (x0 :: x1 :: y :: env) st (fun v s => wM v s fun d s2 => N (x0 :: x1 :: some d :: env) s2) (fun c fs s => XX c fs (x0 :: x1 :: y :: env) s)) := congrArg rho (wS_asg2)
theorem wE_loc3 {x0 x1 x2 : Option D} : wE P go (.loc 3) (x0 :: x1 :: x2 :: some d :: env) st Q X = Q (.v d) st := rfl
@[simp ↓] theorem wE_loc3_r {x0 x1 x2 : Option D} : rho (wE P go (.loc 3) (x0 :: x1 :: x2 :: some d :: env) st Q X) = rho (Q (.v d) st) := congrArg rho (wE_loc3)
theorem wS_asg3 {x0 x1 x2 : Option D} {y : Option D} : wS P go (.asg 3 e) (x0 :: x1 :: x2 :: y :: env) st N T XX = wE P go e (x0 :: x1 :: x2 :: y :: env) st (fun v s => wM v s fun d s2 => N (x0 :: x1 :: x2 :: some d :: env) s2) (fun c fs s => XX c fs (x0 :: x1 :: x2 :: y :: env) s) := by
  unfold wS wE; conv => lhs; unfold exS
  rw [OX_out]; rfl
@[simp ↓] theorem wS_asg3_r {x0 x1 x2 : Option D} {y : Option D} : rho (wS P go (.asg 3 e) (x0 :: x1 :: x2 :: y :: env) st N T XX) = rho (wE P go e (x0 :: x1 :: x2 :: y :: env) st (fun v s => wM v s fun d s2 => N (x0 :: x1 :: x2 :: some d :: env) s2) (fun c fs s => XX c fs (x0 :: x1 :: x2 :: y :: env) s)) := congrArg rho (wS_asg3)
theorem wE_loc4 {x0 x1 x2 x3 : Option D} : wE P go (.loc 4) (x0 :: x1 :: x2 :: x3 :: some d :: env) st Q X = Q (.v d) st := rfl
@[simp ↓] theorem wE_loc4_r {x0 x1 x2 x3 : Option D} : rho (wE P go (.loc 4) (x0 :: x1 :: x2 :: x3 :: some d :: env) st Q X) = rho (Q (.v d) st) := congrArg rho (wE_loc4)
theorem wS_asg4 {x0 x1 x2 x3 : Option D} {y : Option D} : wS P go (.asg 4 e) (x0 :: x1 :: x2 :: x3 :: y :: env) st N T XX = wE P go e (x0 :: x1 :: x2 :: x3 :: y :: env) st (fun v s => wM v s fun d s2 => N (x0 :: x1 :: x2 :: x3 :: some d :: env) s2) (fun c fs s => XX c fs (x0 :: x1 :: x2 :: x3 :: y :: env) s) := by
  unfold wS wE; conv => lhs; unfold exS
  rw [OX_out]; rfl
@[simp ↓] theorem wS_asg4_r {x0 x1 x2 x3 : Option D} {y : Option D} : rho (wS P go (.asg 4 e) (x0 :: x1 :: x2 :: x3 :: y :: env) st N T XX) = rho (wE P go e (x0 :: x1 :: x2 :: x3 :: y :: env) st (fun v s => wM v s fun d s2 => N (x0 :: x1 :: x2 :: x3 :: some d :: env) s2) (fun c fs s => XX c fs (x0 :: x1 :: x2 :: x3 :: y :: env) s)) := congrArg rho (wS_asg4)
theorem wE_loc5 {x0 x1 x2 x3 x4 : Option D} : wE P go (.loc 5) (x0 :: x1 :: x2 :: x3 :: x4 :: some d :: env) st Q X = Q (.v d) st := rfl
@[simp ↓] theorem wE_loc5_r {x0 x1 x2 x3 x4 : Option D} : rho (wE P go (.loc 5) (x0 :: x1 :: x2 :: x3 :: x4 :: some d :: env) st Q X) = rho (Q (.v d) st) := congrArg rho (wE_loc5)
theorem wS_asg5 {x0 x1 x2 x3 x4 : Option D} {y : Option D} : wS P go (.asg 5 e) (x0 :: x1 :: x2 :: x3 :: x4 :: y :: env) st N T XX = wE P go e (x0 :: x1 :: x2 :: x3 :: x4 :: y :: env) st (fun v s => wM v s fun d s2 => N (x0 :: x1 :: x2 :: x3 :: x4 :: some d :: env) s2) (fun c fs s => XX c fs (x0 :: x1 :: x2 :: x3 :: x4 :: y :: env) s) := by
  unfold wS wE; conv => lhs; unfold exS
  rw [OX_out]; rfl
@[simp ↓] theorem wS_asg5_r {x0 x1 x2 x3 x4 : Option D} {y : Option D} : rho (wS P go (.asg 5 e) (x0 :: x1 :: x2 :: x3 :: x4 :: y :: env) st N T XX) = rho (wE P go e (x0 :: x1 :: x2 :: x3 :: x4 :: y :: env) st (fun v s => wM v s fun d s2 => N (x0 :: x1 :: x2 :: x3 :: x4 :: some d :: env) s2) (fun c fs s => XX c fs (x0 :: x1 :: x2 :: x3 :: x4 :: y :: env) s)) := congrArg rho (wS_asg5)
theorem wE_loc6 {x0 x1 x2 x3 x4 x5 : Option D} : wE P go (.loc 6) (x0 :: x1 :: x2 :: x3 :: x4 :: x5 :: some d :: env) st Q X = Q (.v d) st := rfl
@[simp ↓] theorem wE_loc6_r {x0 x1 x2 x3 x4 x5 : Option D} : rho (wE P go (.loc 6) (x0 :: x1 :: x2 :: x3 :: x4 :: x5 :: some d :: env) st Q X) = rho (Q (.v d) st) := congrArg rho (wE_loc6)
theorem wS_asg6 {x0 x1 x2 x3 x4 x5 : Option D} {y : Option D} : wS P go (.asg 6 e) (x0 :: x1 :: x2 :: x3 :: x4 :: x5 :: y :: env) st N T XX = wE P go e (x0 :: x1 :: x2 :: x3 :: x4 :: x5 :: y :: env) st (fun v s => wM v s fun d s2 => N (x0 :: x1 :: x2 :: x3 :: x4 :: x5 :: some d :: env) s2) (fun c fs s => XX c fs (x0 :: x1 :: x2 :: x3 :: x4 :: x5 :: y :: env) s) := by
  unfold wS wE; conv => lhs; unfold exS
  rw [OX_out]; rfl
@[simp ↓] theorem wS_asg6_r {x0 x1 x2 x3 x4 x5 : Option D} {y : Option D} : rho (wS P go (.asg 6 e) (x0 :: x1 :: x2 :: x3 :: x4 :: x5 :: y :: env) st N T XX) = rho (wE P go e (x0 :: x1 :: x2 :: x3 :: x4 :: x5 :: y :: env) st (fun v s => wM v s fun d s2 => N (x0 :: x1 :: x2 :: x3 :: x4 :: x5 :: some d :: env) s2) (fun c fs s => XX c fs (x0 :: x1 :: x2 :: x3 :: x4 :: x5 :: y :: env) s)) := congrArg rho (wS_asg6)
theorem wE_loc7 {x0 x1 x2 x3 x4 x5 x6 : Option D} : wE P go (.loc 7) (x0 :: x1 :: x2 :: x3 :: x4 :: x5 :: x6 :: some d :: env) st Q X = Q (.v d) st := rfl
@[simp ↓] theorem wE_loc7_r {x0 x1 x2 x3 x4 x5 x6 : Option D} : rho (wE P go (.loc 7) (x0 :: x1 :: x2 :: x3 :: x4 :: x5 :: x6 :: some d :: env) st Q X) = rho (Q (.v d) st) := congrArg rho (wE_loc7)
theorem wS_asg7 {x0 x1 x2 x3 x4 x5 x6 : Option D} {y : Option D} : wS P go (.asg 7 e) (x0 :: x1 :: x2 :: x3 :: x4 :: x5 :: x6 :: y :: env) st N T XX = wE P go e (x0 :: x1 :: x2 :: x3 :: x4 :: x5 :: x6 :: y :: env) st (fun v s => wM v s fun d s2 => N (x0 :: x1 :: x2 :: x3 :: x4 :: x5 :: x6 :: some d :: env) s2) (fun c fs s => XX c fs (x0 :: x1 :: x2 :: x3 :: x4 :: x5 :: x6 :: y :: env) s) := by
  unfold wS wE; conv => lhs; unfold exS
  rw [OX_out]; rfl
@[simp ↓] theorem wS_asg7_r {x0 x1 x2 x3 x4 x5 x6 : Option D} {y : Option D} : rho (wS P go (.asg 7 e) (x0 :: x1 :: x2 :: x3 :: x4 :: x5 :: x6 :: y :: env) st N T XX) = rho (wE P go e (x0 :: x1 :: x2 :: x3 :: x4 :: x5 :: x6 :: y :: env) st (fun v s => wM v s fun d s2 => N (x0 :: x1 :: x2 :: x3 :: x4 :: x5 :: x6 :: some d :: env) s2) (fun c fs s => XX c fs (x0 :: x1 :: x2 :: x3 :: x4 :: x5 :: x6 :: y :: env) s)) := congrArg rho (wS_asg7)
theorem wE_loc8 {x0 x1 x2 x3 x4 x5 x6 x7 : Option D} : wE P go (.loc 8) (x0 :: x1 :: x2 :: x3 :: x4 :: x5 :: x6 :: x7 :: some d :: env) st Q X = Q (.v d) st := rfl
@[simp ↓] theorem wE_loc8_r {x0 x1 x2 x3 x4 x5 x6 x7 : Option D} : rho (wE P go (.loc 8) (x0 :: x1 :: x2 :: x3 :: x4 :: x5 :: x6 :: x7 :: some d :: env) st Q X) = rho (Q (.v d) st) := congrArg rho (wE_loc8)
theorem wS_asg8 {x0 x1 x2 x3 x4 x5 x6 x7 : Option D} {y : Option D} : wS P go (.asg 8 e) (x0 :: x1 :: x2 :: x3 :: x4 :: x5 :: x6 :: x7 :: y :: env) st N T XX = wE P go e (x0 :: x1 :: x2 :: x3 :: x4 :: x5 :: x6 :: x7 :: y :: env) st (fun v s => wM v s fun d s2 => N (x0 :: x1 :: x2 :: x3 :: x4 :: x5 :: x6 :: x7 :: some d :: env) s2) (fun c fs s => XX c fs (x0 :: x1 :: x2 :: x3 :: x4 :: x5 :: x6 :: x7 :: y :: env) s) := by
  unfold wS wE; conv => lhs; unfold exS
  rw [OX_out]; rfl
@[simp ↓] theorem wS_asg8_r {x0 x1 x2 x3 x4 x5 x6 x7 : Option D} {y : Option D} : rho (wS P go (.asg 8 e) (x0 :: x1 :: x2 :: x3 :: x4 :: x5 :: x6 :: x7 :: y :: env) st N T XX) = rho (wE P go e (x0 :: x1 :: x2 :: x3 :: x4 :: x5 :: x6 :: x7 :: y :: env) st (fun v s => wM v s fun d s2 => N (x0 :: x1 :: x2 :: x3 :: x4 :: x5 :: x6 :: x7 :: some d :: env) s2) (fun c fs s => XX c fs (x0 :: x1 :: x2 :: x3 :: x4 :: x5 :: x6 :: x7 :: y :: env) s)) := congrArg rho (wS_asg8)
theorem wE_loc9 {x0 x1 x2 x3 x4 x5 x6 x7 x8 : Option D} : wE P go (.loc 9) (x0 :: x1 :: x2 :: x3 :: x4 :: x5 :: x6 :: x7 :: x8 :: some d :: env) st Q X = Q (.v d) st := rfl
@[simp ↓] theorem wE_loc9_r {x0 x1 x2 x3 x4 x5 x6 x7 x8 : Option D} : rho (wE P go (.loc 9) (x0 :: x1 :: x2 :: x3 :: x4 :: x5 :: x6 :: x7 :: x8 :: some d :: env) st Q X) = rho (Q (.v d) st) := congrArg rho (wE_loc9)
theorem wS_asg9 {x0 x1 x2 x3 x4 x5 x6 x7 x8 : Option D} {y : Option D} : wS P go (.asg 9 e) (x0 :: x1 :: x2 :: x3 :: x4 :: x5 :: x6 :: x7 :: x8 :: y :: env) st N T XX = wE P go e (x0 :: x1 :: x2 :: x3 :: x4 :: x5 :: x6 :: x7 :: x8 :: y :: env) st (fun v s => wM v s fun d s2 => N (x0 :: x1 :: x2 :: x3 :: x4 :: x5 :: x6 :: x7 :: x8 :: some d :: env) s2) (fun c fs s => XX c fs (x0 :: x1 :: x2 :: x3 :: x4 :: x5 :: x6 :: x7 :: x8 :: y :: env) s) := by
  unfold wS wE; conv => lhs; unfold exS
  rw [OX_out]; rfl
@[simp ↓] theorem wS_asg9_r {x0 x1 x2 x3 x4 x5 x6 x7 x8 : Option D} {y : Option D} : rho (wS P go (.asg 9 e) (x0 :: x1 :: x2 :: x3 :: x4 :: x5 :: x6 :: x7 :: x8 :: y :: env) st N T XX) = rho (wE P go e (x0 :: x1 :: x2 :: x3 :: x4 :: x5 :: x6 :: x7 :: x8 :: y :: env) st (fun v s => wM v s fun d s2 => N (x0 :: x1 :: x2 :: x3 :: x4 :: x5 :: x6 :: x7 :: x8 :: some d :: env) s2) (fun c fs s => XX c fs (x0 :: x1 :: x2 :: x3 :: x4 :: x5 :: x6 :: x7 :: x8 :: y :: env) s)) := congrArg rho (wS_asg9)
theorem wE_loc10 {x0 x1 x2 x3 x4 x5 x6 x7 x8 x9 : Option D} : wE P go (.loc 10) (x0 :: x1 :: x2 :: x3 :: x4 :: x5 :: x6 :: x7 :: x8 :: x9 :: some d :: env) st Q X = Q (.v d) st := rfl
@[simp ↓] theorem wE_loc10_r {x0 x1 x2 x3 x4 x5 x6 x7 x8 x9 : Option D} : rho (wE P go (.loc 10) (x0 :: x1 :: x2 :: x3 :: x4 :: x5 :: x6 :: x7 :: x8 :: x9 :: some d :: env) st Q X) = rho (Q (.v d) st) := congrArg rho (wE_loc10)
theorem wS_asg10 {x0 x1 x2 x3 x4 x5 x6 x7 x8 x9 : Option D} {y : Option D} : wS P go (.asg 10 e) (x0 :: x1 :: x2 :: x3 :: x4 :: x5 :: x6 :: x7 :: x8 :: x9 :: y :: env) st N T XX = wE P go e (x0 :: x1 :: x2 :: x3 :: x4 :: x5 :: x6 :: x7 :: x8 :: x9 :: y :: env) st (fun v s => wM v s fun d s2 => N (x0 :: x1 :: x2 :: x3 :: x4 :: x5 :: x6 :: x7 :: x8 :: x9 :: some d :: env) s2) (fun c fs s => XX c fs (x0 :: x1 :: x2 :: x3 :: x4 :: x5 :: x6 :: x7 :: x8 :: x9 :: y :: env) s) := by
  unfold wS wE; conv => lhs; unfold exS
  rw [OX_out]; rfl
@[simp ↓] theorem wS_asg10_r {x0 x1 x2 x3 x4 x5 x6 x7 x8 x9 : Option D} {y : Option D} : rho (wS P go (.asg 10 e) (x0 :: x1 :: x2 :: x3 :: x4 :: x5 :: x6 :: x7 :: x8 :: x9 :: y :: env) st N T XX) = rho (wE P go e (x0 :: x1 :: x2 :: x3 :: x4 :: x5 :: x6 :: x7 :: x8 :: x9 :: y :: env) st (fun v s => wM v s fun d s2 => N (x0 :: x1 :: x2 :: x3 :: x4 :: x5 :: x6 :: x7 :: x8 :: x9 :: some d :: env) s2) (fun c fs s => XX c fs (x0 :: x1 :: x2 :: x3 :: x4 :: x5 :: x6 :: x7 :: x8 :: x9 :: y :: env) s)) := congrArg rho (wS_asg10)
theorem wE_loc11 {x0 x1 x2 x3 x4 x5 x6 x7 x8 x9 x10 : Option D} : wE P go (.loc 11) (x0 :: x1 :: x2 :: x3 :: x4 :: x5 :: x6 :: x7 :: x8 :: x9 :: x10 :: some d :: env) st Q X = Q (.v d) st := rfl
@[simp ↓] theorem wE_loc11_r {x0 x1 x2 x3 x4 x5 x6 x7 x8 x9 x10 : Option D} : rho (wE P go (.loc 11) (x0 :: x1 :: x2 :: x3 :: x4 :: x5 :: x6 :: x7 :: x8 :: x9 :: x10 :: some d :: env) st Q X) = rho (Q (.v d) st) := congrArg rho (wE_loc11)
theorem wS_asg11 {x0 x1 x2 x3 x4 x5 x6 x7 x8 x9 x10 : Option D} {y : Option D} : wS P go (.asg 11 e) (x0 :: x1 :: x2 :: x3 :: x4 :: x5 :: x6 :: x7 :: x8 :: x9 :: x10 :: y :: env) st N T XX = wE P go e (x0 :: x1 :: x2 :: x3 :: x4 :: x5 :: x6 :: x7 :: x8 :: x9 :: x10 :: y :: env) st (fun v s => wM v s fun d s2 => N (x0 :: x1 :: x2 :: x3 :: x4 :: x5 :: x6 :: x7 :: x8 :: x9 :: x10 :: some d :: env) s2) (fun c fs s => XX c fs (x0 :: x1 :: x2 :: x3 :: x4 :: x5 :: x6 :: x7 :: x8 :: x9 :: x10 :: y :: env) s) := by
  unfold wS wE; conv => lhs; unfold exS
  rw [OX_out]; rfl
@[simp ↓] theorem wS_asg11_r {x0 x1 x2 x3 x4 x5 x6 x7 x8 x9 x10 : Option D} {y : Option D} : rho (wS P go (.asg 11 e) (x0 :: x1 :: x2 :: x3 :: x4 :: x5 :: x6 :: x7 :: x8 :: x9 :: x10 :: y :: env) st N T XX) = rho (wE P go e (x0 :: x1 :: x2 :: x3 :: x4 :: x5 :: x6 :: x7 :: x8 :: x9 :: x10 :: y :: env) st (fun v s => wM v s fun d s2 => N (x0 :: x1 :: x2 :: x3 :: x4 :: x5 :: x6 :: x7 :: x8 :: x9 :: x10 :: some d :: env) s2) (fun c fs s => XX c fs (x0 :: x1 :: x2 :: x3 :: x4 :: x5 :: x6 :: x7 :: x8 :: x9 :: x10 :: y :: env) s)) := congrArg rho (wS_asg11)
theorem wE_loc12 {x0 x1 x2 x3 x4 x5 x6 x7 x8 x9 x10 x11 : Option D} : wE P go (.loc 12) (x0 :: x1 :: x2 :: x3 :: x4 :: x5 :: x6 :: x7 :: x8 :: x9 :: x10 :: x11 :: some d :: env) st Q X = Q (.v d) st := rfl
@[simp ↓] theorem wE_loc12_r {x0 x1 x2 x3 x4 x5 x6 x7 x8 x9 x10 x11 : Option D} : rho (wE P go (.loc 12) (x0 :: x1 :: x2 :: x3 :: x4 :: x5 :: x6 :: x7 :: x8 :: x9 :: x10 :: x11 :: some d :: env) st Q X) = rho (Q (.v d) st) := congrArg rho (wE_loc12)
theorem wS_asg12 {x0 x1 x2 x3 x4 x5 x6 x7 x8 x9 x10 x11 : Option D} {y : Option D} : wS P go (.asg 12 e) (x0 :: x1 :: x2 :: x3 :: x4 :: x5 :: x6 :: x7 :: x8 :: x9 :: x10 :: x11 :: y :: env) st N T XX = wE P go e (x0 :: x1 :: x2 :: x3 :: x4 :: x5 :: x6 :: x7 :: x8 :: x9 :: x10 :: x11 :: y :: env) st (fun v s => wM v s fun d s2 => N (x0 :: x1 :: x2 :: x3 :: x4 :: x5 :: x6 :: x7 :: x8 :: x9 :: x10 :: x11 :: some d :: env) s2) (fun c fs s => XX c fs (x0 :: x1 :: x2 :: x3 :: x4 :: x5 :: x6 :: x7 :: x8 :: x9 :: x10 :: x11 :: y :: env) s) := by
  unfold wS wE; conv => lhs; unfold exS
  rw [OX_out]; rfl
@[simp ↓] theorem wS_asg12_r {x0 x1 x2 x3 x4 x5 x6 x7 x8 x9 x10 x11 : Option D} {y : Option D} : rho (wS P go (.asg 12 e) (x0 :: x1 :: x2 :: x3 :: x4 :: x5 :: x6 :: x7 :: x8 :: x9 :: x10 :: x11 :: y :: env) st N T XX) = rho (wE P go e (x0 :: x1 :: x2 :: x3 :: x4 :: x5 :: x6 :: x7 :: x8 :: x9 :: x10 :: x11 :: y :: env) st (fun v s => wM v s fun d s2 => N (x0 :: x1 :: x2 :: x3 :: x4 :: x5 :: x6 :: x7 :: x8 :: x9 :: x10 :: x11 :: some d :: env) s2) (fun c fs s => XX c fs (x0 :: x1 :: x2 :: x3 :: x4 :: x5 :: x6 :: x7 :: x8 :: x9 :: x10 :: x11 :: y :: env) s)) := congrArg rho (wS_asg12)
theorem wE_loc13 {x0 x1 x2 x3 x4 x5 x6 x7 x8 x9 x10 x11 x12 : Option D} : wE P go (.loc 13) (x0 :: x1 :: x2 :: x3 :: x4 :: x5 :: x6 :: x7 :: x8 :: x9 :: x10 :: x11 :: x12 :: some d :: env) st Q X = Q (.v d) st := rfl
@[simp ↓] theorem wE_loc13_r {x0 x1 x2 x3 x4 x5 x6 x7 x8 x9 x10 x11 x12 : Option D} : rho (wE P go (.loc 13) (x0 :: x1 :: x2 :: x3 :: x4 :: x5 :: x6 :: x7 :: x8 :: x9 :: x10 :: x11 :: x12 :: some d :: env) st Q X) = rho (Q (.v d) st) := congrArg rho (wE_loc13)
theorem wS_asg13 {x0 x1 x2 x3 x4 x5 x6 x7 x8 x9 x10 x11 x12 : Option D} {y : Option D} : wS P go (.asg 13 e) (x0 :: x1 :: x2 :: x3 :: x4 :: x5 :: x6 :: x7 :: x8 :: x9 :: x10 :: x11 :: x12 :: y :: env) st N T XX = wE P go e (x0 :: x1 :: x2 :: x3 :: x4 :: x5 :: x6 :: x7 :: x8 :: x9 :: x10 :: x11 :: x12 :: y :: env) st (fun v s => wM v s fun d s2 => N (x0 :: x1 :: x2 :: x3 :: x4 :: x5 :: x6 :: x7 :: x8 :: x9 :: x10 :: x11 :: x12 :: some d :: env) s2) (fun c fs s => XX c fs (x0 :: x1 :: x2 :: x3 :: x4 :: x5 :: x6 :: x7 :: x8 :: x9 :: x10 :: x11 :: x12 :: y :: env) s) := by
  unfold wS wE; conv => lhs; unfold exS
  rw [OX_out]; rfl
@[simp ↓] theorem wS_asg13_r {x0 x1 x2 x3 x4 x5 x6 x7 x8 x9 x10 x11 x12 : Option D} {y : Option D} : rho (wS P go (.asg 13 e) (x0 :: x1 :: x2 :: x3 :: x4 :: x5 :: x6 :: x7 :: x8 :: x9 :: x10 :: x11 :: x12 :: y :: env) st N T XX) = rho (wE P go e (x0 :: x1 :: x2 :: x3 :: x4 :: x5 :: x6 :: x7 :: x8 :: x9 :: x10 :: x11 :: x12 :: y :: env) st (fun v s => wM v s fun d s2 => N (x0 :: x1 :: x2 :: x3 :: x4 :: x5 :: x6 :: x7 :: x8 :: x9 :: x10 :: x11 :: x12 :: some d :: env) s2) (fun c fs s => XX c fs (x0 :: x1 :: x2 :: x3 :: x4 :: x5 :: x6 :: x7 :: x8 :: x9 :: x10 :: x11 :: x12 :: y :: env) s)) := congrArg rho (wS_asg13)
theorem wE_loc14 {x0 x1 x2 x3 x4 x5 x6 x7 x8 x9 x10 x11 x12 x13 : Option D} : wE P go (.loc 14) (x0 :: x1 :: x2 :: x3 :: x4 :: x5 :: x6 :: x7 :: x8 :: x9 :: x10 :: x11 :: x12 :: x13 :: some d :: env) st Q X = Q (.v d) st := rfl
@[simp ↓] theorem wE_loc14_r {x0 x1 x2 x3 x4 x5 x6 x7 x8 x9 x10 x11 x12 x13 : Option D} : rho (wE P go (.loc 14) (x0 :: x1 :: x2 :: x3 :: x4 :: x5 :: x6 :: x7 :: x8 :: x9 :: x10 :: x11 :: x12 :: x13 :: some d :: env) st Q X) = rho (Q (.v d) st) := congrArg rho (wE_loc14)
theorem wS_asg14 {x0 x1 x2 x3 x4 x5 x6 x7 x8 x9 x10 x11 x12 x13 : Option D} {y : Option D} : wS P go (.asg 14 e) (x0 :: x1 :: x2 :: x3 :: x4 :: x5 :: x6 :: x7 :: x8 :: x9 :: x10 :: x11 :: x12 :: x13 :: y :: env) st N T XX = wE P go e (x0 :: x1 :: x2 :: x3 :: x4 :: x5 :: x6 :: x7 :: x8 :: x9 :: x10 :: x11 :: x12 :: x13 :: y :: env) st (fun v s => wM v s fun d s2 => N (x0 :: x1 :: x2 :: x3 :: x4 :: x5 :: x6 :: x7 :: x8 :: x9 :: x10 :: x11 :: x12 :: x13 :: some d :: env) s2) (fun c fs s => XX c fs (x0 :: x1 :: x2 :: x3 :: x4 :: x5 :: x6 :: x7 :: x8 :: x9 :: x10 :: x11 :: x12 :: x13 :: y :: env) s) := by
  unfold wS wE; conv => lhs; unfold exS
  rw [OX_out]; rfl
@[simp ↓] theorem wS_asg14_r {x0 x1 x2 x3 x4 x5 x6 x7 x8 x9 x10 x11 x12 x13 : Option D} {y : Option D} : rho (wS P go (.asg 14 e) (x0 :: x1 :: x2 :: x3 :: x4 :: x5 :: x6 :: x7 :: x8 :: x9 :: x10 :: x11 :: x12 :: x13 :: y :: env) st N T XX) = rho (wE P go e (x0 :: x1 :: x2 :: x3 :: x4 :: x5 :: x6 :: x7 :: x8 :: x9 :: x10 :: x11 :: x12 :: x13 :: y :: env) st (fun v s => wM v s fun d s2 => N (x0 :: x1 :: x2 :: x3 :: x4 :: x5 :: x6 :: x7 :: x8 :: x9 :: x10 :: x11 :: x12 :: x13 :: some d :: env) s2) (fun c fs s => XX c fs (x0 :: x1 :: x2 :: x3 :: x4 :: x5 :: x6 :: x7 :: x8 :: x9 :: x10 :: x11 :: x12 :: x13 :: y :: env) s)) := congrArg rho (wS_asg14)
theorem wE_loc15 {x0 x1 x2 x3 x4 x5 x6 x7 x8 x9 x10 x11 x12 x13 x14 : Option D} : wE P go (.loc 15) (x0 :: x1 :: x2 :: x3 :: x4 :: x5 :: x6 :: x7 :: x8 :: x9 :: x10 :: x11 :: x12 :: x13 :: x14 :: some d :: env) st Q X = Q (.v d) st := rfl
@[simp ↓] theorem wE_loc15_r {x0 x1 x2 x3 x4 x5 x6 x7 x8 x9 x10 x11 x12 x13 x14 : Option D} : rho (wE P go (.loc 15) (x0 :: x1 :: x2 :: x3 :: x4 :: x5 :: x6 :: x7 :: x8 :: x9 :: x10 :: x11 :: x12 :: x13 :: x14 :: some d :: env) st Q X) = rho (Q (.v d) st) := congrArg rho (wE_loc15)
theorem wS_asg15 {x0 x1 x2 x3 x4 x5 x6 x7 x8 x9 x10 x11 x12 x13 x14 : Option D} {y : Option D} : wS P go (.asg 15 e) (x0 :: x1 :: x2 :: x3 :: x4 :: x5 :: x6 :: x7 :: x8 :: x9 :: x10 :: x11 :: x12 :: x13 :: x14 :: y :: env) st N T XX = wE P go e (x0 :: x1 :: x2 :: x3 :: x4 :: x5 :: x6 :: x7 :: x8 :: x9 :: x10 :: x11 :: x12 :: x13 :: x14 :: y :: env) st (fun v s => wM v s fun d s2 => N (x0 :: x1 :: x2 :: x3 :: x4 :: x5 :: x6 :: x7 :: x8 :: x9 :: x10 :: x11 :: x12 :: x13 :: x14 :: some d :: env) s2) (fun c fs s => XX c fs (x0 :: x1 :: x2 :: x3 :: x4 :: x5 :: x6 :: x7 :: x8 :: x9 :: x10 :: x11 :: x12 :: x13 :: x14 :: y :: env) s) := by
  unfold wS wE; conv => lhs; unfold exS
  rw [OX_out]; rfl
@[simp ↓] theorem wS_asg15_r {x0 x1 x2 x3 x4 x5 x6 x7 x8 x9 x10 x11 x12 x13 x14 : Option D} {y : Option D} : rho (wS P go (.asg 15 e) (x0 :: x1 :: x2 :: x3 :: x4 :: x5 :: x6 :: x7 :: x8 :: x9 :: x10 :: x11 :: x12 :: x13 :: x14 :: y :: env) st N T XX) = rho (wE P go e (x0 :: x1 :: x2 :: x3 :: x4 :: x5 :: x6 :: x7 :: x8 :: x9 :: x10 :: x11 :: x12 :: x13 :: x14 :: y :: env) st (fun v s => wM v s fun d s2 => N (x0 :: x1 :: x2 :: x3 :: x4 :: x5 :: x6 :: x7 :: x8 :: x9 :: x10 :: x11 :: x12 :: x13 :: x14 :: some d :: env) s2) (fun c fs s => XX c fs (x0 :: x1 :: x2 :: x3 :: x4 :: x5 :: x6 :: x7 :: x8 :: x9 :: x10 :: x11 :: x12 :: x13 :: x14 :: y :: env) s)) := congrArg rho (wS_asg15)
theorem wE_loc16 {x0 x1 x2 x3 x4 x5 x6 x7 x8 x9 x10 x11 x12 x13 x14 x15 : Option D} : wE P go (.loc 16) (x0 :: x1 :: x2 :: x3 :: x4 :: x5 :: x6 :: x7 :: x8 :: x9 :: x10 :: x11 :: x12 :: x13 :: x14 :: x15 :: some d :: env) st Q X = Q (.v d) st := rfl
@[simp ↓] theorem wE_loc16_r {x0 x1 x2 x3 x4 x5 x6 x7 x8 x9 x10 x11 x12 x13 x14 x15 : Option D} : rho (wE P go (.loc 16) (x0 :: x1 :: x2 :: x3 :: x4 :: x5 :: x6 :: x7 :: x8 :: x9 :: x10 :: x11 :: x12 :: x13 :: x14 :: x15 :: some d :: env) st Q X) = rho (Q (.v d) st) := congrArg rho (wE_loc16)
theorem wS_asg16 {x0 x1 x2 x3 x4 x5 x6 x7 x8 x9 x10 x11 x12 x13 x14 x15 : Option D} {y : Option D} : wS P go (.asg 16 e) (x0 :: x1 :: x2 :: x3 :: x4 :: x5 :: x6 :: x7 :: x8 :: x9 :: x10 :: x11 :: x12 :: x13 :: x14 :: x15 :: y :: env) st N T XX = wE P go e (x0 :: x1 :: x2 :: x3 :: x4 :: x5 :: x6 :: x7 :: x8 :: x9 :: x10 :: x11 :: x12 :: x13 :: x14 :: x15 :: y :: env) st (fun v s => wM v s fun d s2 => N (x0 :: x1 :: x2 :: x3 :: x4 :: x5 :: x6 :: x7 :: x8 :: x9 :: x10 :: x11 :: x12 :: x13 :: x14 :: x15 :: some d :: env) s2) (fun c fs s => XX c fs (x0 :: x1 :: x2 :: x3 :: x4 :: x5 :: x6 :: x7 :: x8 :: x9 :: x10 :: x11 :: x12 :: x13 :: x14 :: x15 :: y :: env) s) := by
  unfold wS wE; conv => lhs; unfold exS
  rw [OX_out]; rfl
@[simp ↓] theorem wS_asg16_r {x0 x1 x2 x3 x4 x5 x6 x7 x8 x9 x10 x11 x12 x13 x14 x15 : Option D} {y : Option D} : rho (wS P go (.asg 16 e) (x0 :: x1 :: x2 :: x3 :: x4 :: x5 :: x6 :: x7 :: x8 :: x9 :: x10 :: x11 :: x12 :: x13 :: x14 :: x15 :: y :: env) st N T XX) = rho (wE P go e (x0 :: x1 :: x2 :: x3 :: x4 :: x5 :: x6 :: x7 :: x8 :: x9 :: x10 :: x11 :: x12 :: x13 :: x14 :: x15 :: y :: env) st (fun v s => wM v s fun d s2 => N (x0 :: x1 :: x2 :: x3 :: x4 :: x5 :: x6 :: x7 :: x8 :: x9 :: x10 :: x11 :: x12 :: x13 :: x14 :: x15 :: some d :: env) s2) (fun c fs s => XX c fs (x0 :: x1 :: x2 :: x3 :: x4 :: x5 :: x6 :: x7 :: x8 :: x9 :: x10 :: x11 :: x12 :: x13 :: x14 :: x15 :: y :: env) s)) := congrArg rho (wS_asg16)
theorem wE_loc17 {x0 x1 x2 x3 x4 x5 x6 x7 x8 x9 x10 x11 x12 x13 x14 x15 x16 : Option D} : wE P go (.loc 17) (x0 :: x1 :: x2 :: x3 :: x4 :: x5 :: x6 :: x7 :: x8 :: x9 :: x10 :: x11 :: x12 :: x13 :: x14 :: x15 :: x16 :: some d :: env) st Q X = Q (.v d) st := rfl
@[simp ↓] theorem wE_loc17_r {x0 x1 x2 x3 x4 x5 x6 x7 x8 x9 x10 x11 x12 x13 x14 x15 x16 : Option D} : rho (wE P go (.loc 17) (x0 :: x1 :: x2 :: x3 :: x4 :: x5 :: x6 :: x7 :: x8 :: x9 :: x10 :: x11 :: x12 :: x13 :: x14 :: x15 :: x16 :: some d :: env) st Q X) = rho (Q (.v d) st) := congrArg rho (wE_loc17)
theorem wS_asg17 {x0 x1 x2 x3 x4 x5 x6 x7 x8 x9 x10 x11 x12 x13 x14 x15 x16 : Option D} {y : Option D} : wS P go (.asg 17 e) (x0 :: x1 :: x2 :: x3 :: x4 :: x5 :: x6 :: x7 :: x8 :: x9 :: x10 :: x11 :: x12 :: x13 :: x14 :: x15 :: x16 :: y :: env) st N T XX = wE P go e (x0 :: x1 :: x2 :: x3 :: x4 :: x5 :: x6 :: x7 :: x8 :: x9 :: x10 :: x11 :: x12 :: x13 :: x14 :: x15 :: x16 :: y :: env) st (fun v s => wM v s fun d s2 => N (x0 :: x1 :: x2 :: x3 :: x4 :: x5 :: x6 :: x7 :: x8 :: x9 :: x10 :: x11 :: x12 :: x13 :: x14 :: x15 :: x16 :: some d :: env) s2) (fun c fs s => XX c fs (x0 :: x1 :: x2 :: x3 :: x4 :: x5 :: x6 :: x7 :: x8 :: x9 :: x10 :: x11 :: x12 :: x13 :: x14 :: x15 :: x16 :: y :: env) s) := by
  unfold wS wE; conv => lhs; unfold exS
  rw [OX_out]; rfl
@[simp ↓] theorem wS_asg17_r {x0 x1 x2 x3 x4 x5 x6 x7 x8 x9 x10 x11 x12 x13 x14 x15 x16 : Option D} {y : Option D} : rho (wS P go (.asg 17 e) (x0 :: x1 :: x2 :: x3 :: x4 :: x5 :: x6 :: x7 :: x8 :: x9 :: x10 :: x11 :: x12 :: x13 :: x14 :: x15 :: x16 :: y :: env) st N T XX) = rho (wE P go e (x0 :: x1 :: x2 :: x3 :: x4 :: x5 :: x6 :: x7 :: x8 :: x9 :: x10 :: x11 :: x12 :: x13 :: x14 :: x15 :: x16 :: y :: env) st (fun v s => wM v s fun d s2 => N (x0 :: x1 :: x2 :: x3 :: x4 :: x5 :: x6 :: x7 :: x8 :: x9 :: x10 :: x11 :: x12 :: x13 :: x14 :: x15 :: x16 :: some d :: env) s2) (fun c fs s => XX c fs (x0 :: x1 :: x2 :: x3 :: x4 :: x5 :: x6 :: x7 :: x8 :: x9 :: x10 :: x11 :: x12 :: x13 :: x14 :: x15 :: x16 :: y :: env) s)) := congrArg rho (wS_asg17)
theorem wE_loc18 {x0 x1 x2 x3 x4 x5 x6 x7 x8 x9 x10 x11 x12 x13 x14 x15 x16 x17 : Option D} : wE P go (.loc 18) (x0 :: x1 :: x2 :: x3 :: x4 :: x5 :: x6 :: x7 :: x8 :: x9 :: x10 :: x11 :: x12 :: x13 :: x14 :: x15 :: x16 :: x17 :: some d :: env) st Q X = Q (.v d) st := rfl
@[simp ↓] theorem wE_loc18_r {x0 x1 x2 x3 x4 x5 x6 x7 x8 x9 x10 x11 x12 x13 x14 x15 x16 x17 : Option D} : rho (wE P go (.loc 18) (x0 :: x1 :: x2 :: x3 :: x4 :: x5 :: x6 :: x7 :: x8 :: x9 :: x10 :: x11 :: x12 :: x13 :: x14 :: x15 :: x16 :: x17 :: some d :: env) st Q X) = rho (Q (.v d) st) := congrArg rho (wE_loc18)
theorem wS_asg18 {x0 x1 x2 x3 x4 x5 x6 x7 x8 x9 x10 x11 x12 x13 x14 x15 x16 x17 : Option D} {y : Option D} : wS P go (.asg 18 e) (x0 :: x1 :: x2 :: x3 :: x4 :: x5 :: x6 :: x7 :: x8 :: x9 :: x10 :: x11 :: x12 :: x13 :: x14 :: x15 :: x16 :: x17 :: y :: env) st N T XX = wE P go e (x0 :: x1 :: x2 :: x3 :: x4 :: x5 :: x6 :: x7 :: x8 :: x9 :: x10 :: x11 :: x12 :: x13 :: x14 :: x15 :: x16 :: x17 :: y :: env) st (fun v s => wM v s fun d s2 => N (x0 :: x1 :: x2 :: x3 :: x4 :: x5 :: x6 :: x7 :: x8 :: x9 :: x10 :: x11 :: x12 :: x13 :: x14 :: x15 :: x16 :: x17 :: some d :: env) s2) (fun c fs s => XX c fs (x0 :: x1 :: x2 :: x3 :: x4 :: x5 :: x6 :: x7 :: x8 :: x9 :: x10 :: x11 :: x12 :: x13 :: x14 :: x15 :: x16 :: x17 :: y :: env) s) := by
  unfold wS wE; conv => lhs; unfold exS
  rw [OX_out]; rfl
@[simp ↓] theorem wS_asg18_r {x0 x1 x2 x3 x4 x5 x6 x7 x8 x9 x10 x11 x12 x13 x14 x15 x16 x17 : Option D} {y : Option D} : rho (wS P go (.asg 18 e) (x0 :: x1 :: x2 :: x3 :: x4 :: x5 :: x6 :: x7 :: x8 :: x9 :: x10 :: x11 :: x12 :: x13 :: x14 :: x15 :: x16 :: x17 :: y :: env) st N T XX) = rho (wE P go e (x0 :: x1 :: x2 :: x3 :: x4 :: x5 :: x6 :: x7 :: x8 :: x9 :: x10 :: x11 :: x12 :: x13 :: x14 :: x15 :: x16 :: x17 :: y :: env) st (fun v s => wM v s fun d s2 => N (x0 :: x1 :: x2 :: x3 :: x4 :: x5 :: x6 :: x7 :: x8 :: x9 :: x10 :: x11 :: x12 :: x13 :: x14 :: x15 :: x16 :: x17 :: some d :: env) s2) (fun c fs s => XX c fs (x0 :: x1 :: x2 :: x3 :: x4 :: x5 :: x6 :: x7 :: x8 :: x9 :: x10 :: x11 :: x12 :: x13 :: x14 :: x15 :: x16 :: x17 :: y :: env) s)) := congrArg rho (wS_asg18)
theorem wE_loc19 {x0 x1 x2 x3 x4 x5 x6 x7 x8 x9 x10 x11 x12 x13 x14 x15 x16 x17 x18 : Option D} : wE P go (.loc 19) (x0 :: x1 :: x2 :: x3 :: x4 :: x5 :: x6 :: x7 :: x8 :: x9 :: x10 :: x11 :: x12 :: x13 :: x14 :: x15 :: x16 :: x17 :: x18 :: some d :: env) st Q X = Q (.v d) st := rfl
@[simp ↓] theorem wE_loc19_r {x0 x1 x2 x3 x4 x5 x6 x7 x8 x9 x10 x11 x12 x13 x14 x15 x16 x17 x18 : Option D} : rho (wE P go (.loc 19) (x0 :: x1 :: x2 :: x3 :: x4 :: x5 :: x6 :: x7 :: x8 :: x9 :: x10 :: x11 :: x12 :: x13 :: x14 :: x15 :: x16 :: x17 :: x18 :: some d :: env) st Q X) = rho (Q (.v d) st) := congrArg rho (wE_loc19)
theorem wS_asg19 {x0 x1 x2 x3 x4 x5 x6 x7 x8 x9 x10 x11 x12 x13 x14 x15 x16 x17 x18 : Option D} {y : Option D} : wS P go (.asg 19 e) (x0 :: x1 :: x2 :: x3 :: x4 :: x5 :: x6 :: x7 :: x8 :: x9 :: x10 :: x11 :: x12 :: x13 :: x14 :: x15 :: x16 :: x17 :: x18 :: y :: env) st N T XX = wE P go e (x0 :: x1 :: x2 :: x3 :: x4 :: x5 :: x6 :: x7 :: x8 :: x9 :: x10 :: x11 :: x12 :: x13 :: x14 :: x15 :: x16 :: x17 :: x18 :: y :: env) st (fun v s => wM v s fun d s2 => N (x0 :: x1 :: x2 :: x3 :: x4 :: x5 :: x6 :: x7 :: x8 :: x9 :: x10 :: x11 :: x12 :: x13 :: x14 :: x15 :: x16 :: x17 :: x18 :: some d :: env) s2) (fun c fs s => XX c fs (x0 :: x1 :: x2 :: x3 :: x4 :: x5 :: x6 :: x7 :: x8 :: x9 :: x10 :: x11 :: x12 :: x13 :: x14 :: x15 :: x16 :: x17 :: x18 :: y :: env) s) := by
  unfold wS wE; conv => lhs; unfold exS
  rw [OX_out]; rfl
@[simp ↓] theorem wS_asg19_r {x0 x1 x2 x3 x4 x5 x6 x7 x8 x9 x10 x11 x12 x13 x14 x15 x16 x17 x18 : Option D} {y : Option D} : rho (wS P go (.asg 19 e) (x0 :: x1 :: x2 :: x3 :: x4 :: x5 :: x6 :: x7 :: x8 :: x9 :: x10 :: x11 :: x12 :: x13 :: x14 :: x15 :: x16 :: x17 :: x18 :: y :: env) st N T XX) = rho (wE P go e (x0 :: x1 :: x2 :: x3 :: x4 :: x5 :: x6 :: x7 :: x8 :: x9 :: x10 :: x11 :: x12 :: x13 :: x14 :: x15 :: x16 :: x17 :: x18 :: y :: env) st (fun v s => wM v s fun d s2 => N (x0 :: x1 :: x2 :: x3 :: x4 :: x5 :: x6 :: x7 :: x8 :: x9 :: x10 :: x11 :: x12 :: x13 :: x14 :: x15 :: x16 :: x17 :: x18 :: some d :: env) s2) (fun c fs s => XX c fs (x0 :: x1 :: x2 :: x3 :: x4 :: x5 :: x6 :: x7 :: x8 :: x9 :: x10 :: x11 :: x12 :: x13 :: x14 :: x15 :: x16 :: x17 :: x18 :: y :: env) s)) := congrArg rho (wS_asg19)
theorem wE_loc20 {x0 x1 x2 x3 x4 x5 x6 x7 x8 x9 x10 x11 x12 x13 x14 x15 x16 x17 x18 x19 : Option D} : wE P go (.loc 20) (x0 :: x1 :: x2 :: x3 :: x4 :: x5 :: x6 :: x7 :: x8 :: x9 :: x10 :: x11 :: x12 :: x13 :: x14 :: x15 :: x16 :: x17 :: x18 :: x19 :: some d :: env) st Q X = Q (.v d) st := rfl
@[simp ↓] theorem wE_loc20_r {x0 x1 x2 x3 x4 x5 x6 x7 x8 x9 x10 x11 x12 x13 x14 x15 x16 x17 x18 x19 : Option D} : rho (wE P go (.loc 20) (x0 :: x1 :: x2 :: x3 :: x4 :: x5 :: x6 :: x7 :: x8 :: x9 :: x10 :: x11 :: x12 :: x13 :: x14 :: x15 :: x16 :: x17 :: x18 :: x19 :: some d :: env) st Q X) = rho (Q (.v d) st) := congrArg rho (wE_loc20)
theorem wS_asg20 {x0 x1 x2 x3 x4 x5 x6 x7 x8 x9 x10 x11 x12 x13 x14 x15 x16 x17 x18 x19 : Option D} {y : Option D} : wS P go (.asg 20 e) (x0 :: x1 :: x2 :: x3 :: x4 :: x5 :: x6 :: x7 :: x8 :: x9 :: x10 :: x11 :: x12 :: x13 :: x14 :: x15 :: x16 :: x17 :: x18 :: x19 :: y :: env) st N T XX = wE P go e (x0 :: x1 :: x2 :: x3 :: x4 :: x5 :: x6 :: x7 :: x8 :: x9 :: x10 :: x11 :: x12 :: x13 :: x14 :: x15 :: x16 :: x17 :: x18 :: x19 :: y :: env) st (fun v s => wM v s fun d s2 => N (x0 :: x1 :: x2 :: x3 :: x4 :: x5 :: x6 :: x7 :: x8 :: x9 :: x10 :: x11 :: x12 :: x13 :: x14 :: x15 :: x16 :: x17 :: x18 :: x19 :: some d :: env) s2) (fun c fs s => XX c fs (x0 :: x1 :: x2 :: x3 :: x4 :: x5 :: x6 :: x7 :: x8 :: x9 :: x10 :: x11 :: x12 :: x13 :: x14 :: x15 :: x16 :: x17 :: x18 :: x19 :: y :: env) s) := by
  unfold wS wE; conv => lhs; unfold exS
  rw [OX_out]; rfl
@[simp ↓] theorem wS_asg20_r {x0 x1 x2 x3 x4 x5 x6 x7 x8 x9 x10 x11 x12 x13 x14 x15 x16 x17 x18 x19 : Option D} {y : Option D} : rho (wS P go (.asg 20 e) (x0 :: x1 :: x2 :: x3 :: x4 :: x5 :: x6 :: x7 :: x8 :: x9 :: x10 :: x11 :: x12 :: x13 :: x14 :: x15 :: x16 :: x17 :: x18 :: x19 :: y :: env) st N T XX) = rho (wE P go e (x0 :: x1 :: x2 :: x3 :: x4 :: x5 :: x6 :: x7 :: x8 :: x9 :: x10 :: x11 :: x12 :: x13 :: x14 :: x15 :: x16 :: x17 :: x18 :: x19 :: y :: env) st (fun v s => wM v s fun d s2 => N (x0 :: x1 :: x2 :: x3 :: x4 :: x5 :: x6 :: x7 :: x8 :: x9 :: x10 :: x11 :: x12 :: x13 :: x14 :: x15 :: x16 :: x17 :: x18 :: x19 :: some d :: env) s2) (fun c fs s => XX c fs (x0 :: x1 :: x2 :: x3 :: x4 :: x5 :: x6 :: x7 :: x8 :: x9 :: x10 :: x11 :: x12 :: x13 :: x14 :: x15 :: x16 :: x17 :: x18 :: x19 :: y :: env) s)) := congrArg rho (wS_asg20)
theorem wE_loc21 {x0 x1 x2 x3 x4 x5 x6 x7 x8 x9 x10 x11 x12 x13 x14 x15 x16 x17 x18 x19 x20 : Option D} : wE P go (.loc 21) (x0 :: x1 :: x2 :: x3 :: x4 :: x5 :: x6 :: x7 :: x8 :: x9 :: x10 :: x11 :: x12 :: x13 :: x14 :: x15 :: x16 :: x17 :: x18 :: x19 :: x20 :: some d :: env) st Q X = Q (.v d) st := rfl
@[simp ↓] theorem wE_loc21_r {x0 x1 x2 x3 x4 x5 x6 x7 x8 x9 x10 x11 x12 x13 x14 x15 x16 x17 x18 x19 x20 : Option D} : rho (wE P go (.loc 21) (x0 :: x1 :: x2 :: x3 :: x4 :: x5 :: x6 :: x7 :: x8 :: x9 :: x10 :: x11 :: x12 :: x13 :: x14 :: x15 :: x16 :: x17 :: x18 :: x19 :: x20 :: some d :: env) st Q X) = rho (Q (.v d) st) := congrArg rho (wE_loc21)
theorem wS_asg21 {x0 x1 x2 x3 x4 x5 x6 x7 x8 x9 x10 x11 x12 x13 x14 x15 x16 x17 x18 x19 x20 : Option D} {y : Option D} : wS P go (.asg 21 e) (x0 :: x1 :: x2 :: x3 :: x4 :: x5 :: x6 :: x7 :: x8 :: x9 :: x10 :: x11 :: x12 :: x13 :: x14 :: x15 :: x16 :: x17 :: x18 :: x19 :: x20 :: y :: env) st N T XX = wE P go e (x0 :: x1 :: x2 :: x3 :: x4 :: x5 :: x6 :: x7 :: x8 :: x9 :: x10 :: x11 :: x12 :: x13 :: x14 :: x15 :: x16 :: x17 :: x18 :: x19 :: x20 :: y :: env) st (fun v s => wM v s fun d s2 => N (x0 :: x1 :: x2 :: x3 :: x4 :: x5 :: x6 :: x7 :: x8 :: x9 :: x10 :: x11 :: x12 :: x13 :: x14 :: x15 :: x16 :: x17 :: x18 :: x19 :: x20 :: some d :: env) s2) (fun c fs s => XX c fs (x0 :: x1 :: x2 :: x3 :: x4 :: x5 :: x6 :: x7 :: x8 :: x9 :: x10 :: x11 :: x12 :: x13 :: x14 :: x15 :: x16 :: x17 :: x18 :: x19 :: x20 :: y :: env) s) := by
  unfold wS wE; conv => lhs; unfold exS
  rw [OX_out]; rfl
@[simp ↓] theorem wS_asg21_r {x0 x1 x2 x3 x4 x5 x6 x7 x8 x9 x10 x11 x12 x13 x14 x15 x16 x17 x18 x19 x20 : Option D} {y : Option D} : rho (wS P go (.asg 21 e) (x0 :: x1 :: x2 :: x3 :: x4 :: x5 :: x6 :: x7 :: x8 :: x9 :: x10 :: x11 :: x12 :: x13 :: x14 :: x15 :: x16 :: x17 :: x18 :: x19 :: x20 :: y :: env) st N T XX) = rho (wE P go e (x0 :: x1 :: x2 :: x3 :: x4 :: x5 :: x6 :: x7 :: x8 :: x9 :: x10 :: x11 :: x12 :: x13 :: x14 :: x15 :: x16 :: x17 :: x18 :: x19 :: x20 :: y :: env) st (fun v s => wM v s fun d s2 => N (x0 :: x1 :: x2 :: x3 :: x4 :: x5 :: x6 :: x7 :: x8 :: x9 :: x10 :: x11 :: x12 :: x13 :: x14 :: x15 :: x16 :: x17 :: x18 :: x19 :: x20 :: some d :: env) s2) (fun c fs s => XX c fs (x0 :: x1 :: x2 :: x3 :: x4 :: x5 :: x6 :: x7 :: x8 :: x9 :: x10 :: x11 :: x12 :: x13 :: x14 :: x15 :: x16 :: x17 :: x18 :: x19 :: x20 :: y :: env) s)) := congrArg rho (wS_asg21)
theorem wE_loc22 {x0 x1 x2 x3 x4 x5 x6 x7 x8 x9 x10 x11 x12 x13 x14 x15 x16 x17 x18 x19 x20 x21 : Option D} : wE P go (.loc 22) (x0 :: x1 :: x2 :: x3 :: x4 :: x5 :: x6 :: x7 :: x8 :: x9 :: x10 :: x11 :: x12 :: x13 :: x14 :: x15 :: x16 :: x17 :: x18 :: x19 :: x20 :: x21 :: some d :: env) st Q X = Q (.v d) st := rfl
@[simp ↓] theorem wE_loc22_r {x0 x1 x2 x3 x4 x5 x6 x7 x8 x9 x10 x11 x12 x13 x14 x15 x16 x17 x18 x19 x20 x21 : Option D} : rho (wE P go (.loc 22) (x0 :: x1 :: x2 :: x3 :: x4 :: x5 :: x6 :: x7 :: x8 :: x9 :: x10 :: x11 :: x12 :: x13 :: x14 :: x15 :: x16 :: x17 :: x18 :: x19 :: x20 :: x21 :: some d :: env) st Q X) = rho (Q (.v d) st) := congrArg rho (wE_loc22)
theorem wS_asg22 {x0 x1 x2 x3 x4 x5 x6 x7 x8 x9 x10 x11 x12 x13 x14 x15 x16 x17 x18 x19 x20 x21 : Option D} {y : Option D} : wS P go (.asg 22 e) (x0 :: x1 :: x2 :: x3 :: x4 :: x5 :: x6 :: x7 :: x8 :: x9 :: x10 :: x11 :: x12 :: x13 :: x14 :: x15 :: x16 :: x17 :: x18 :: x19 :: x20 :: x21 :: y :: env) st N T XX = wE P go e (x0 :: x1 :: x2 :: x3 :: x4 :: x5 :: x6 :: x7 :: x8 :: x9 :: x10 :: x11 :: x12 :: x13 :: x14 :: x15 :: x16 :: x17 :: x18 :: x19 :: x20 :: x21 :: y :: env) st (fun v s => wM v s fun d s2 => N (x0 :: x1 :: x2 :: x3 :: x4 :: x5 :: x6 :: x7 :: x8 :: x9 :: x10 :: x11 :: x12 :: x13 :: x14 :: x15 :: x16 :: x17 :: x18 :: x19 :: x20 :: x21 :: some d :: env) s2) (fun c fs s => XX c fs (x0 :: x1 :: x2 :: x3 :: x4 :: x5 :: x6 :: x7 :: x8 :: x9 :: x10 :: x11 :: x12 :: x13 :: x14 :: x15 :: x16 :: x17 :: x18 :: x19 :: x20 :: x21 :: y :: env) s) := by
  unfold wS wE; conv => lhs; unfold exS
  rw [OX_out]; rfl
@[simp ↓] theorem wS_asg22_r {x0 x1 x2 x3 x4 x5 x6 x7 x8 x9 x10 x11 x12 x13 x14 x15 x16 x17 x18 x19 x20 x21 : Option D} {y : Option D} : rho (wS P go (.asg 22 e) (x0 :: x1 :: x2 :: x3 :: x4 :: x5 :: x6 :: x7 :: x8 :: x9 :: x10 :: x11 :: x12 :: x13 :: x14 :: x15 :: x16 :: x17 :: x18 :: x19 :: x20 :: x21 :: y :: env) st N T XX) = rho (wE P go e (x0 :: x1 :: x2 :: x3 :: x4 :: x5 :: x6 :: x7 :: x8 :: x9 :: x10 :: x11 :: x12 :: x13 :: x14 :: x15 :: x16 :: x17 :: x18 :: x19 :: x20 :: x21 :: y :: env) st (fun v s => wM v s fun d s2 => N (x0 :: x1 :: x2 :: x3 :: x4 :: x5 :: x6 :: x7 :: x8 :: x9 :: x10 :: x11 :: x12 :: x13 :: x14 :: x15 :: x16 :: x17 :: x18 :: x19 :: x20 :: x21 :: some d :: env) s2) (fun c fs s => XX c fs (x0 :: x1 :: x2 :: x3 :: x4 :: x5 :: x6 :: x7 :: x8 :: x9 :: x10 :: x11 :: x12 :: x13 :: x14 :: x15 :: x16 :: x17 :: x18 :: x19 :: x20 :: x21 :: y :: env) s)) := congrArg rho (wS_asg22)
theorem wE_loc23 {x0 x1 x2 x3 x4 x5 x6 x7 x8 x9 x10 x11 x12 x13 x14 x15 x16 x17 x18 x19 x20 x21 x22 : Option D} : wE P go (.loc 23) (x0 :: x1 :: x2 :: x3 :: x4 :: x5 :: x6 :: x7 :: x8 :: x9 :: x10 :: x11 :: x12 :: x13 :: x14 :: x15 :: x16 :: x17 :: x18 :: x19 :: x20 :: x21 :: x22 :: some d :: env) st Q X = Q (.v d) st := rfl
@[simp ↓] theorem wE_loc23_r {x0 x1 x2 x3 x4 x5 x6 x7 x8 x9 x10 x11 x12 x13 x14 x15 x16 x17 x18 x19 x20 x21 x22 : Option D} : rho (wE P go (.loc 23) (x0 :: x1 :: x2 :: x3 :: x4 :: x5 :: x6 :: x7 :: x8 :: x9 :: x10 :: x11 :: x12 :: x13 :: x14 :: x15 :: x16 :: x17 :: x18 :: x19 :: x20 :: x21 :: x22 :: some d :: env) st Q X) = rho (Q (.v d) st) := congrArg rho (wE_loc23)
theorem wS_asg23 {x0 x1 x2 x3 x4 x5 x6 x7 x8 x9 x10 x11 x12 x13 x14 x15 x16 x17 x18 x19 x20 x21 x22 : Option D} {y : Option D} : wS P go (.asg 23 e) (x0 :: x1 :: x2 :: x3 :: x4 :: x5 :: x6 :: x7 :: x8 :: x9 :: x10 :: x11 :: x12 :: x13 :: x14 :: x15 :: x16 :: x17 :: x18 :: x19 :: x20 :: x21 :: x22 :: y :: env) st N T XX = wE P go e (x0 :: x1 :: x2 :: x3 :: x4 :: x5 :: x6 :: x7 :: x8 :: x9 :: x10 :: x11 :: x12 :: x13 :: x14 :: x15 :: x16 :: x17 :: x18 :: x19 :: x20 :: x21 :: x22 :: y :: env) st (fun v s => wM v s fun d s2 => N (x0 :: x1 :: x2 :: x3 :: x4 :: x5 :: x6 :: x7 :: x8 :: x9 :: x10 :: x11 :: x12 :: x13 :: x14 :: x15 :: x16 :: x17 :: x18 :: x19 :: x20 :: x21 :: x22 :: some d :: env) s2) (fun c fs s => XX c fs (x0 :: x1 :: x2 :: x3 :: x4 :: x5 :: x6 :: x7 :: x8 :: x9 :: x10 :: x11 :: x12 :: x13 :: x14 :: x15 :: x16 :: x17 :: x18 :: x19 :: x20 :: x21 :: x22 :: y :: env) s) := by
  unfold wS wE; conv => lhs; unfold exS
  rw [OX_out]; rfl
@[simp ↓] theorem wS_asg23_r {x0 x1 x2 x3 x4 x5 x6 x7 x8 x9 x10 x11 x12 x13 x14 x15 x16 x17 x18 x19 x20 x21 x22 : Option D} {y : Option D} : rho (wS P go (.asg 23 e) (x0 :: x1 :: x2 :: x3 :: x4 :: x5 :: x6 :: x7 :: x8 :: x9 :: x10 :: x11 :: x12 :: x13 :: x14 :: x15 :: x16 :: x17 :: x18 :: x19 :: x20 :: x21 :: x22 :: y :: env) st N T XX) = rho (wE P go e (x0 :: x1 :: x2 :: x3 :: x4 :: x5 :: x6 :: x7 :: x8 :: x9 :: x10 :: x11 :: x12 :: x13 :: x14 :: x15 :: x16 :: x17 :: x18 :: x19 :: x20 :: x21 :: x22 :: y :: env) st (fun v s => wM v s fun d s2 => N (x0 :: x1 :: x2 :: x3 :: x4 :: x5 :: x6 :: x7 :: x8 :: x9 :: x10 :: x11 :: x12 :: x13 :: x14 :: x15 :: x16 :: x17 :: x18 :: x19 :: x20 :: x21 :: x22 :: some d :: env) s2) (fun c fs s => XX c fs (x0 :: x1 :: x2 :: x3 :: x4 :: x5 :: x6 :: x7 :: x8 :: x9 :: x10 :: x11 :: x12 :: x13 :: x14 :: x15 :: x16 :: x17 :: x18 :: x19 :: x20 :: x21 :: x22 :: y :: env) s)) := congrArg rho (wS_asg23)
theorem wE_loc24 {x0 x1 x2 x3 x4 x5 x6 x7 x8 x9 x10 x11 x12 x13 x14 x15 x16 x17 x18 x19 x20 x21 x22 x23 : Option D} : wE P go (.loc 24) (x0 :: x1 :: x2 :: x3 :: x4 :: x5 :: x6 :: x7 :: x8 :: x9 :: x10 :: x11 :: x12 :: x13 :: x14 :: x15 :: x16 :: x17 :: x18 :: x19 :: x20 :: x21 :: x22 :: x23 :: some d :: env) st Q X = Q (.v d) st := rfl
@[simp ↓] theorem wE_loc24_r {x0 x1 x2 x3 x4 x5 x6 x7 x8 x9 x10 x11 x12 x13 x14 x15 x16 x17 x18 x19 x20 x21 x22 x23 : Option D} : rho (wE P go (.loc 24) (x0 :: x1 :: x2 :: x3 :: x4 :: x5 :: x6 :: x7 :: x8 :: x9 :: x10 :: x11 :: x12 :: x13 :: x14 :: x15 :: x16 :: x17 :: x18 :: x19 :: x20 :: x21 :: x22 :: x23 :: some d :: env) st Q X) = rho (Q (.v d) st) := congrArg rho (wE_loc24)
theorem wS_asg24 {x0 x1 x2 x3 x4 x5 x6 x7 x8 x9 x10 x11 x12 x13 x14 x15 x16 x17 x18 x19 x20 x21 x22 x23 : Option D} {y : Option D} : wS P go (.asg 24 e) (x0 :: x1 :: x2 :: x3 :: x4 :: x5 :: x6 :: x7 :: x8 :: x9 :: x10 :: x11 :: x12 :: x13 :: x14 :: x15 :: x16 :: x17 :: x18 :: x19 :: x20 :: x21 :: x22 :: x23 :: y :: env) st N T XX = wE P go e (x0 :: x1 :: x2 :: x3 :: x4 :: x5 :: x6 :: x7 :: x8 :: x9 :: x10 :: x11 :: x12 :: x13 :: x14 :: x15 :: x16 :: x17 :: x18 :: x19 :: x20 :: x21 :: x22 :: x23 :: y :: env) st (fun v s => wM v s fun d s2 => N (x0 :: x1 :: x2 :: x3 :: x4 :: x5 :: x6 :: x7 :: x8 :: x9 :: x10 :: x11 :: x12 :: x13 :: x14 :: x15 :: x16 :: x17 :: x18 :: x19 :: x20 :: x21 :: x22 :: x23 :: some d :: env) s2) (fun c fs s => XX c fs (x0 :: x1 :: x2 :: x3 :: x4 :: x5 :: x6 :: x7 :: x8 :: x9 :: x10 :: x11 :: x12 :: x13 :: x14 :: x15 :: x16 :: x17 :: x18 :: x19 :: x20 :: x21 :: x22 :: x23 :: y :: env) s) := by
  unfold wS wE; conv => lhs; unfold exS
  rw [OX_out]; rfl
@[simp ↓] theorem wS_asg24_r {x0 x1 x2 x3 x4 x5 x6 x7 x8 x9 x10 x11 x12 x13 x14 x15 x16 x17 x18 x19 x20 x21 x22 x23 : Option D} {y : Option D} : rho (wS P go (.asg 24 e) (x0 :: x1 :: x2 :: x3 :: x4 :: x5 :: x6 :: x7 :: x8 :: x9 :: x10 :: x11 :: x12 :: x13 :: x14 :: x15 :: x16 :: x17 :: x18 :: x19 :: x20 :: x21 :: x22 :: x23 :: y :: env) st N T XX) = rho (wE P go e (x0 :: x1 :: x2 :: x3 :: x4 :: x5 :: x6 :: x7 :: x8 :: x9 :: x10 :: x11 :: x12 :: x13 :: x14 :: x15 :: x16 :: x17 :: x18 :: x19 :: x20 :: x21 :: x22 :: x23 :: y :: env) st (fun v s => wM v s fun d s2 => N (x0 :: x1 :: x2 :: x3 :: x4 :: x5 :: x6 :: x7 :: x8 :: x9 :: x10 :: x11 :: x12 :: x13 :: x14 :: x15 :: x16 :: x17 :: x18 :: x19 :: x20 :: x21 :: x22 :: x23 :: some d :: env) s2) (fun c fs s => XX c fs (x0 :: x1 :: x2 :: x3 :: x4 :: x5 :: x6 :: x7 :: x8 :: x9 :: x10 :: x11 :: x12 :: x13 :: x14 :: x15 :: x16 :: x17 :: x18 :: x19 :: x20 :: x21 :: x22 :: x23 :: y :: env) s)) := congrArg rho (wS_asg24)
theorem wE_loc25 {x0 x1 x2 x3 x4 x5 x6 x7 x8 x9 x10 x11 x12 x13 x14 x15 x16 x17 x18 x19 x20 x21 x22 x23 x24 : Option D} : wE P go (.loc 25) (x0 :: x1 :: x2 :: x3 :: x4 :: x5 :: x6 :: x7 :: x8 :: x9 :: x10 :: x11 :: x12 :: x13 :: x14 :: x15 :: x16 :: x17 :: x18 :: x19 :: x20 :: x21 :: x22 :: x23 :: x24 :: some d :: env) st Q X = Q (.v d) st := rfl
@[simp ↓] theorem wE_loc25_r {x0 x1 x2 x3 x4 x5 x6 x7 x8 x9 x10 x11 x12 x13 x14 x15 x16 x17 x18 x19 x20 x21 x22 x23 x24 : Option D} : rho (wE P go (.loc 25) (x0 :: x1 :: x2 :: x3 :: x4 :: x5 :: x6 :: x7 :: x8 :: x9 :: x10 :: x11 :: x12 :: x13 :: x14 :: x15 :: x16 :: x17 :: x18 :: x19 :: x20 :: x21 :: x22 :: x23 :: x24 :: some d :: env) st Q X) = rho (Q (.v d) st) := congrArg rho (wE_loc25)
theorem wS_asg25 {x0 x1 x2 x3 x4 x5 x6 x7 x8 x9 x10 x11 x12 x13 x14 x15 x16 x17 x18 x19 x20 x21 x22 x23 x24 : Option D} {y : Option D} : wS P go (.asg 25 e) (x0 :: x1 :: x2 :: x3 :: x4 :: x5 :: x6 :: x7 :: x8 :: x9 :: x10 :: x11 :: x12 :: x13 :: x14 :: x15 :: x16 :: x17 :: x18 :: x19 :: x20 :: x21 :: x22 :: x23 :: x24 :: y :: env) st N T XX = wE P go e (x0 :: x1 :: x2 :: x3 :: x4 :: x5 :: x6 :: x7 :: x8 :: x9 :: x10 :: x11 :: x12 :: x13 :: x14 :: x15 :: x16 :: x17 :: x18 :: x19 :: x20 :: x21 :: x22 :: x23 :: x24 :: y :: env) st (fun v s => wM v s fun d s2 => N (x0 :: x1 :: x2 :: x3 :: x4 :: x5 :: x6 :: x7 :: x8 :: x9 :: x10 :: x11 :: x12 :: x13 :: x14 :: x15 :: x16 :: x17 :: x18 :: x19 :: x20 :: x21 :: x22 :: x23 :: x24 :: some d :: env) s2) (fun c fs s => XX c fs (x0 :: x1 :: x2 :: x3 :: x4 :: x5 :: x6 :: x7 :: x8 :: x9 :: x10 :: x11 :: x12 :: x13 :: x14 :: x15 :: x16 :: x17 :: x18 :: x19 :: x20 :: x21 :: x22 :: x23 :: x24 :: y :: env) s) := by
  unfold wS wE; conv => lhs; unfold exS
  rw [OX_out]; rfl
@[simp ↓] theorem wS_asg25_r {x0 x1 x2 x3 x4 x5 x6 x7 x8 x9 x10 x11 x12 x13 x14 x15 x16 x17 x18 x19 x20 x21 x22 x23 x24 : Option D} {y : Option D} : rho (wS P go (.asg 25 e) (x0 :: x1 :: x2 :: x3 :: x4 :: x5 :: x6 :: x7 :: x8 :: x9 :: x10 :: x11 :: x12 :: x13 :: x14 :: x15 :: x16 :: x17 :: x18 :: x19 :: x20 :: x21 :: x22 :: x23 :: x24 :: y :: env) st N T XX) = rho (wE P go e (x0 :: x1 :: x2 :: x3 :: x4 :: x5 :: x6 :: x7 :: x8 :: x9 :: x10 :: x11 :: x12 :: x13 :: x14 :: x15 :: x16 :: x17 :: x18 :: x19 :: x20 :: x21 :: x22 :: x23 :: x24 :: y :: env) st (fun v s => wM v s fun d s2 => N (x0 :: x1 :: x2 :: x3 :: x4 :: x5 :: x6 :: x7 :: x8 :: x9 :: x10 :: x11 :: x12 :: x13 :: x14 :: x15 :: x16 :: x17 :: x18 :: x19 :: x20 :: x21 :: x22 :: x23 :: x24 :: some d :: env) s2) (fun c fs s => XX c fs (x0 :: x1 :: x2 :: x3 :: x4 :: x5 :: x6 :: x7 :: x8 :: x9 :: x10 :: x11 :: x12 :: x13 :: x14 :: x15 :: x16 :: x17 :: x18 :: x19 :: x20 :: x21 :: x22 :: x23 :: x24 :: y :: env) s)) := congrArg rho (wS_asg25)
theorem wE_loc26 {x0 x1 x2 x3 x4 x5 x6 x7 x8 x9 x10 x11 x12 x13 x14 x15 x16 x17 x18 x19 x20 x21 x22 x23 x24 x25 : Option D} : wE P go (.loc 26) (x0 :: x1 :: x2 :: x3 :: x4 :: x5 :: x6 :: x7 :: x8 :: x9 :: x10 :: x11 :: x12 :: x13 :: x14 :: x15 :: x16 :: x17 :: x18 :: x19 :: x20 :: x21 :: x22 :: x23 :: x24 :: x25 :: some d :: env) st Q X = Q (.v d) st := rfl
@[simp ↓] theorem wE_loc26_r {x0 x1 x2 x3 x4 x5 x6 x7 x8 x9 x10 x11 x12 x13 x14 x15 x16 x17 x18 x19 x20 x21 x22 x23 x24 x25 : Option D} : rho (wE P go (.loc 26) (x0 :: x1 :: x2 :: x3 :: x4 :: x5 :: x6 :: x7 :: x8 :: x9 :: x10 :: x11 :: x12 :: x13 :: x14 :: x15 :: x16 :: x17 :: x18 :: x19 :: x20 :: x21 :: x22 :: x23 :: x24 :: x25 :: some d :: env) st Q X) = rho (Q (.v d) st) := congrArg rho (wE_loc26)
theorem wS_asg26 {x0 x1 x2 x3 x4 x5 x6 x7 x8 x9 x10 x11 x12 x13 x14 x15 x16 x17 x18 x19 x20 x21 x22 x23 x24 x25 : Option D} {y : Option D} : wS P go (.asg 26 e) (x0 :: x1 :: x2 :: x3 :: x4 :: x5 :: x6 :: x7 :: x8 :: x9 :: x10 :: x11 :: x12 :: x13 :: x14 :: x15 :: x16 :: x17 :: x18 :: x19 :: x20 :: x21 :: x22 :: x23 :: x24 :: x25 :: y :: env) st N T XX = wE P go e (x0 :: x1 :: x2 :: x3 :: x4 :: x5 :: x6 :: x7 :: x8 :: x9 :: x10 :: x11 :: x12 :: x13 :: x14 :: x15 :: x16 :: x17 :: x18 :: x19 :: x20 :: x21 :: x22 :: x23 :: x24 :: x25 :: y :: env) st (fun v s => wM v s fun d s2 => N (x0 :: x1 :: x2 :: x3 :: x4 :: x5 :: x6 :: x7 :: x8 :: x9 :: x10 :: x11 :: x12 :: x13 :: x14 :: x15 :: x16 :: x17 :: x18 :: x19 :: x20 :: x21 :: x22 :: x23 :: x24 :: x25 :: some d :: env) s2) (fun c fs s => XX c fs (x0 :: x1 :: x2 :: x3 :: x4 :: x5 :: x6 :: x7 :: x8 :: x9 :: x10 :: x11 :: x12 :: x13 :: x14 :: x15 :: x16 :: x17 :: x18 :: x19 :: x20 :: x21 :: x22 :: x23 :: x24 :: x25 :: y :: env) s) := by
  unfold wS wE; conv => lhs; unfold exS
  rw [OX_out]; rfl
@[simp ↓] theorem wS_asg26_r {x0 x1 x2 x3 x4 x5 x6 x7 x8 x9 x10 x11 x12 x13 x14 x15 x16 x17 x18 x19 x20 x21 x22 x23 x24 x25 : Option D} {y : Option D} : rho (wS P go (.asg 26 e) (x0 :: x1 :: x2 :: x3 :: x4 :: x5 :: x6 :: x7 :: x8 :: x9 :: x10 :: x11 :: x12 :: x13 :: x14 :: x15 :: x16 :: x17 :: x18 :: x19 :: x20 :: x21 :: x22 :: x23 :: x24 :: x25 :: y :: env) st N T XX) = rho (wE P go e (x0 :: x1 :: x2 :: x3 :: x4 :: x5 :: x6 :: x7 :: x8 :: x9 :: x10 :: x11 :: x12 :: x13 :: x14 :: x15 :: x16 :: x17 :: x18 :: x19 :: x20 :: x21 :: x22 :: x23 :: x24 :: x25 :: y :: env) st (fun v s => wM v s fun d s2 => N (x0 :: x1 :: x2 :: x3 :: x4 :: x5 :: x6 :: x7 :: x8 :: x9 :: x10 :: x11 :: x12 :: x13 :: x14 :: x15 :: x16 :: x17 :: x18 :: x19 :: x20 :: x21 :: x22 :: x23 :: x24 :: x25 :: some d :: env) s2) (fun c fs s => XX c fs (x0 :: x1 :: x2 :: x3 :: x4 :: x5 :: x6 :: x7 :: x8 :: x9 :: x10 :: x11 :: x12 :: x13 :: x14 :: x15 :: x16 :: x17 :: x18 :: x19 :: x20 :: x21 :: x22 :: x23 :: x24 :: x25 :: y :: env) s)) := congrArg rho (wS_asg26)
theorem wE_loc27 {x0 x1 x2 x3 x4 x5 x6 x7 x8 x9 x10 x11 x12 x13 x14 x15 x16 x17 x18 x19 x20 x21 x22 x23 x24 x25 x26 : Option D} : wE P go (.loc 27) (x0 :: x1 :: x2 :: x3 :: x4 :: x5 :: x6 :: x7 :: x8 :: x9 :: x10 :: x11 :: x12 :: x13 :: x14 :: x15 :: x16 :: x17 :: x18 :: x19 :: x20 :: x21 :: x22 :: x23 :: x24 :: x25 :: x26 :: some d :: env) st Q X = Q (.v d) st := rfl
@[simp ↓] theorem wE_loc27_r {x0 x1 x2 x3 x4 x5 x6 x7 x8 x9 x10 x11 x12 x13 x14 x15 x16 x17 x18 x19 x20 x21 x22 x23 x24 x25 x26 : Option D} : rho (wE P go (.loc 27) (x0 :: x1 :: x2 :: x3 :: x4 :: x5 :: x6 :: x7 :: x8 :: x9 :: x10 :: x11 :: x12 :: x13 :: x14 :: x15 :: x16 :: x17 :: x18 :: x19 :: x20 :: x21 :: x22 :: x23 :: x24 :: x25 :: x26 :: some d :: env) st Q X) = rho (Q (.v d) st) := congrArg rho (wE_loc27)
theorem wS_asg27 {x0 x1 x2 x3 x4 x5 x6 x7 x8 x9 x10 x11 x12 x13 x14 x15 x16 x17 x18 x19 x20 x21 x22 x23 x24 x25 x26 : Option D} {y : Option D} : wS P go (.asg 27 e) (x0 :: x1 :: x2 :: x3 :: x4 :: x5 :: x6 :: x7 :: x8 :: x9 :: x10 :: x11 :: x12 :: x13 :: x14 :: x15 :: x16 :: x17 :: x18 :: x19 :: x20 :: x21 :: x22 :: x23 :: x24 :: x25 :: x26 :: y :: env) st N T XX = wE P go e (x0 :: x1 :: x2 :: x3 :: x4 :: x5 :: x6 :: x7 :: x8 :: x9 :: x10 :: x11 :: x12 :: x13 :: x14 :: x15 :: x16 :: x17 :: x18 :: x19 :: x20 :: x21 :: x22 :: x23 :: x24 :: x25 :: x26 :: y :: env) st (fun v s => wM v s fun d s2 => N (x0 :: x1 :: x2 :: x3 :: x4 :: x5 :: x6 :: x7 :: x8 :: x9 :: x10 :: x11 :: x12 :: x13 :: x14 :: x15 :: x16 :: x17 :: x18 :: x19 :: x20 :: x21 :: x22 :: x23 :: x24 :: x25 :: x26 :: some d :: env) s2) (fun c fs s => XX c fs (x0 :: x1 :: x2 :: x3 :: x4 :: x5 :: x6 :: x7 :: x8 :: x9 :: x10 :: x11 :: x12 :: x13 :: x14 :: x15 :: x16 :: x17 :: x18 :: x19 :: x20 :: x21 :: x22 :: x23 :: x24 :: x25 :: x26 :: y :: env) s) := by
  unfold wS wE; conv => lhs; unfold exS
  rw [OX_out]; rfl
@[simp ↓] theorem wS_asg27_r {x0 x1 x2 x3 x4 x5 x6 x7 x8 x9 x10 x11 x12 x13 x14 x15 x16 x17 x18 x19 x20 x21 x22 x23 x24 x25 x26 : Option D} {y : Option D} : rho (wS P go (.asg 27 e) (x0 :: x1 :: x2 :: x3 :: x4 :: x5 :: x6 :: x7 :: x8 :: x9 :: x10 :: x11 :: x12 :: x13 :: x14 :: x15 :: x16 :: x17 :: x18 :: x19 :: x20 :: x21 :: x22 :: x23 :: x24 :: x25 :: x26 :: y :: env) st N T XX) = rho (wE P go e (x0 :: x1 :: x2 :: x3 :: x4 :: x5 :: x6 :: x7 :: x8 :: x9 :: x10 :: x11 :: x12 :: x13 :: x14 :: x15 :: x16 :: x17 :: x18 :: x19 :: x20 :: x21 :: x22 :: x23 :: x24 :: x25 :: x26 :: y :: env) st (fun v s => wM v s fun d s2 => N (x0 :: x1 :: x2 :: x3 :: x4 :: x5 :: x6 :: x7 :: x8 :: x9 :: x10 :: x11 :: x12 :: x13 :: x14 :: x15 :: x16 :: x17 :: x18 :: x19 :: x20 :: x21 :: x22 :: x23 :: x24 :: x25 :: x26 :: some d :: env) s2) (fun c fs s => XX c fs (x0 :: x1 :: x2 :: x3 :: x4 :: x5 :: x6 :: x7 :: x8 :: x9 :: x10 :: x11 :: x12 :: x13 :: x14 :: x15 :: x16 :: x17 :: x18 :: x19 :: x20 :: x21 :: x22 :: x23 :: x24 :: x25 :: x26 :: y :: env) s)) := congrArg rho (wS_asg27)
theorem wE_loc28 {x0 x1 x2 x3 x4 x5 x6 x7 x8 x9 x10 x11 x12 x13 x14 x15 x16 x17 x18 x19 x20 x21 x22 x23 x24 x25 x26 x27 : Option D} : wE P go (.loc 28) (x0 :: x1 :: x2 :: x3 :: x4 :: x5 :: x6 :: x7 :: x8 :: x9 :: x10 :: x11 :: x12 :: x13 :: x14 :: x15 :: x16 :: x17 :: x18 :: x19 :: x20 :: x21 :: x22 :: x23 :: x24 :: x25 :: x26 :: x27 :: some d :: env) st Q X = Q (.v d) st := rfl
@[simp ↓] theorem wE_loc28_r {x0 x1 x2 x3 x4 x5 x6 x7 x8 x9 x10 x11 x12 x13 x14 x15 x16 x17 x18 x19 x20 x21 x22 x23 x24 x25 x26 x27 : Option D} : rho (wE P go (.loc 28) (x0 :: x1 :: x2 :: x3 :: x4 :: x5 :: x6 :: x7 :: x8 :: x9 :: x10 :: x11 :: x12 :: x13 :: x14 :: x15 :: x16 :: x17 :: x18 :: x19 :: x20 :: x21 :: x22 :: x23 :: x24 :: x25 :: x26 :: x27 :: some d :: env) st Q X) = rho (Q (.v d) st) := congrArg rho (wE_loc28)
theorem wS_asg28 {x0 x1 x2 x3 x4 x5 x6 x7 x8 x9 x10 x11 x12 x13 x14 x15 x16 x17 x18 x19 x20 x21 x22 x23 x24 x25 x26 x27 : Option D} {y : Option D} : wS P go (.asg 28 e) (x0 :: x1 :: x2 :: x3 :: x4 :: x5 :: x6 :: x7 :: x8 :: x9 :: x10 :: x11 :: x12 :: x13 :: x14 :: x15 :: x16 :: x17 :: x18 :: x19 :: x20 :: x21 :: x22 :: x23 :: x24 :: x25 :: x26 :: x27 :: y :: env) st N T XX = wE P go e (x0 :: x1 :: x2 :: x3 :: x4 :: x5 :: x6 :: x7 :: x8 :: x9 :: x10 :: x11 :: x12 :: x13 :: x14 :: x15 :: x16 :: x17 :: x18 :: x19 :: x20 :: x21 :: x22 :: x23 :: x24 :: x25 :: x26 :: x27 :: y :: env) st (fun v s => wM v s fun d s2 => N (x0 :: x1 :: x2 :: x3 :: x4 :: x5 :: x6 :: x7 :: x8 :: x9 :: x10 :: x11 :: x12 :: x13 :: x14 :: x15 :: x16 :: x17 :: x18 :: x19 :: x20 :: x21 :: x22 :: x23 :: x24 :: x25 :: x26 :: x27 :: some d :: env) s2) (fun c fs s => XX c fs (x0 :: x1 :: x2 :: x3 :: x4 :: x5 :: x6 :: x7 :: x8 :: x9 :: x10 :: x11 :: x12 :: x13 :: x14 :: x15 :: x16 :: x17 :: x18 :: x19 :: x20 :: x21 :: x22 :: x23 :: x24 :: x25 :: x26 :: x27 :: y :: env) s) := by
  unfold wS wE; conv => lhs; unfold exS
  rw [OX_out]; rfl
@[simp ↓] theorem wS_asg28_r {x0 x1 x2 x3 x4 x5 x6 x7 x8 x9 x10 x11 x12 x13 x14 x15 x16 x17 x18 x19 x20 x21 x22 x23 x24 x25 x26 x27 : Option D} {y : Option D} : rho (wS P go (.asg 28 e) (x0 :: x1 :: x2 :: x3 :: x4 :: x5 :: x6 :: x7 :: x8 :: x9 :: x10 :: x11 :: x12 :: x13 :: x14 :: x15 :: x16 :: x17 :: x18 :: x19 :: x20 :: x21 :: x22 :: x23 :: x24 :: x25 :: x26 :: x27 :: y :: env) st N T XX) = rho (wE P go e (x0 :: x1 :: x2 :: x3 :: x4 :: x5 :: x6 :: x7 :: x8 :: x9 :: x10 :: x11 :: x12 :: x13 :: x14 :: x15 :: x16 :: x17 :: x18 :: x19 :: x20 :: x21 :: x22 :: x23 :: x24 :: x25 :: x26 :: x27 :: y :: env) st (fun v s => wM v s fun d s2 => N (x0 :: x1 :: x2 :: x3 :: x4 :: x5 :: x6 :: x7 :: x8 :: x9 :: x10 :: x11 :: x12 :: x13 :: x14 :: x15 :: x16 :: x17 :: x18 :: x19 :: x20 :: x21 :: x22 :: x23 :: x24 :: x25 :: x26 :: x27 :: some d :: env) s2) (fun c fs s => XX c fs (x0 :: x1 :: x2 :: x3 :: x4 :: x5 :: x6 :: x7 :: x8 :: x9 :: x10 :: x11 :: x12 :: x13 :: x14 :: x15 :: x16 :: x17 :: x18 :: x19 :: x20 :: x21 :: x22 :: x23 :: x24 :: x25 :: x26 :: x27 :: y :: env) s)) := congrArg rho (wS_asg28)
theorem wE_loc29 {x0 x1 x2 x3 x4 x5 x6 x7 x8 x9 x10 x11 x12 x13 x14 x15 x16 x17 x18 x19 x20 x21 x22 x23 x24 x25 x26 x27 x28 : Option D} : wE P go (.loc 29) (x0 :: x1 :: x2 :: x3 :: x4 :: x5 :: x6 :: x7 :: x8 :: x9 :: x10 :: x11 :: x12 :: x13 :: x14 :: x15 :: x16 :: x17 :: x18 :: x19 :: x20 :: x21 :: x22 :: x23 :: x24 :: x25 :: x26 :: x27 :: x28 :: some d :: env) st Q X = Q (.v d) st := rfl
@[simp ↓] theorem wE_loc29_r {x0 x1 x2 x3 x4 x5 x6 x7 x8 x9 x10 x11 x12 x13 x14 x15 x16 x17 x18 x19 x20 x21 x22 x23 x24 x25 x26 x27 x28 : Option D} : rho (wE P go (.loc 29) (x0 :: x1 :: x2 :: x3 :: x4 :: x5 :: x6 :: x7 :: x8 :: x9 :: x10 :: x11 :: x12 :: x13 :: x14 :: x15 :: x16 :: x17 :: x18 :: x19 :: x20 :: x21 :: x22 :: x23 :: x24 :: x25 :: x26 :: x27 :: x28 :: some d :: env) st Q X) = rho (Q (.v d) st) := congrArg rho (wE_loc29)
theorem wS_asg29 {x0 x1 x2 x3 x4 x5 x6 x7 x8 x9 x10 x11 x12 x13 x14 x15 x16 x17 x18 x19 x20 x21 x22 x23 x24 x25 x26 x27 x28 : Option D} {y : Option D} : wS P go (.asg 29 e) (x0 :: x1 :: x2 :: x3 :: x4 :: x5 :: x6 :: x7 :: x8 :: x9 :: x10 :: x11 :: x12 :: x13 :: x14 :: x15 :: x16 :: x17 :: x18 :: x19 :: x20 :: x21 :: x22 :: x23 :: x24 :: x25 :: x26 :: x27 :: x28 :: y :: env) st N T XX = wE P go e (x0 :: x1 :: x2 :: x3 :: x4 :: x5 :: x6 :: x7 :: x8 :: x9 :: x10 :: x11 :: x12 :: x13 :: x14 :: x15 :: x16 :: x17 :: x18 :: x19 :: x20 :: x21 :: x22 :: x23 :: x24 :: x25 :: x26 :: x27 :: x28 :: y :: env) st (fun v s => wM v s fun d s2 => N (x0 :: x1 :: x2 :: x3 :: x4 :: x5 :: x6 :: x7 :: x8 :: x9 :: x10 :: x11 :: x12 :: x13 :: x14 :: x15 :: x16 :: x17 :: x18 :: x19 :: x20 :: x21 :: x22 :: x23 :: x24 :: x25 :: x26 :: x27 :: x28 :: some d :: env) s2) (fun c fs s => XX c fs (x0 :: x1 :: x2 :: x3 :: x4 :: x5 :: x6 :: x7 :: x8 :: x9 :: x10 :: x11 :: x12 :: x13 :: x14 :: x15 :: x16 :: x17 :: x18 :: x19 :: x20 :: x21 :: x22 :: x23 :: x24 :: x25 :: x26 :: x27 :: x28 :: y :: env) s) := by
  unfold wS wE; conv => lhs; unfold exS
  rw [OX_out]; rfl
@[simp ↓] theorem wS_asg29_r {x0 x1 x2 x3 x4 x5 x6 x7 x8 x9 x10 x11 x12 x13 x14 x15 x16 x17 x18 x19 x20 x21 x22 x23 x24 x25 x26 x27 x28 : Option D} {y : Option D} : rho (wS P go (.asg 29 e) (x0 :: x1 :: x2 :: x3 :: x4 :: x5 :: x6 :: x7 :: x8 :: x9 :: x10 :: x11 :: x12 :: x13 :: x14 :: x15 :: x16 :: x17 :: x18 :: x19 :: x20 :: x21 :: x22 :: x23 :: x24 :: x25 :: x26 :: x27 :: x28 :: y :: env) st N T XX) = rho (wE P go e (x0 :: x1 :: x2 :: x3 :: x4 :: x5 :: x6 :: x7 :: x8 :: x9 :: x10 :: x11 :: x12 :: x13 :: x14 :: x15 :: x16 :: x17 :: x18 :: x19 :: x20 :: x21 :: x22 :: x23 :: x24 :: x25 :: x26 :: x27 :: x28 :: y :: env) st (fun v s => wM v s fun d s2 => N (x0 :: x1 :: x2 :: x3 :: x4 :: x5 :: x6 :: x7 :: x8 :: x9 :: x10 :: x11 :: x12 :: x13 :: x14 :: x15 :: x16 :: x17 :: x18 :: x19 :: x20 :: x21 :: x22 :: x23 :: x24 :: x25 :: x26 :: x27 :: x28 :: some d :: env) s2) (fun c fs s => XX c fs (x0 :: x1 :: x2 :: x3 :: x4 :: x5 :: x6 :: x7 :: x8 :: x9 :: x10 :: x11 :: x12 :: x13 :: x14 :: x15 :: x16 :: x17 :: x18 :: x19 :: x20 :: x21 :: x22 :: x23 :: x24 :: x25 :: x26 :: x27 :: x28 :: y :: env) s)) := congrArg rho (wS_asg29)
theorem wE_loc30 {x0 x1 x2 x3 x4 x5 x6 x7 x8 x9 x10 x11 x12 x13 x14 x15 x16 x17 x18 x19 x20 x21 x22 x23 x24 x25 x26 x27 x28 x29 : Option D} : wE P go (.loc 30) (x0 :: x1 :: x2 :: x3 :: x4 :: x5 :: x6 :: x7 :: x8 :: x9 :: x10 :: x11 :: x12 :: x13 :: x14 :: x15 :: x16 :: x17 :: x18 :: x19 :: x20 :: x21 :: x22 :: x23 :: x24 :: x25 :: x26 :: x27 :: x28 :: x29 :: some d :: env) st Q X = Q (.v d) st := rfl
@[simp ↓] theorem wE_loc30_r {x0 x1 x2 x3 x4 x5 x6 x7 x8 x9 x10 x11 x12 x13 x14 x15 x16 x17 x18 x19 x20 x21 x22 x23 x24 x25 x26 x27 x28 x29 : Option D} : rho (wE P go (.loc 30) (x0 :: x1 :: x2 :: x3 :: x4 :: x5 :: x6 :: x7 :: x8 :: x9 :: x10 :: x11 :: x12 :: x13 :: x14 :: x15 :: x16 :: x17 :: x18 :: x19 :: x20 :: x21 :: x22 :: x23 :: x24 :: x25 :: x26 :: x27 :: x28 :: x29 :: some d :: env) st Q X) = rho (Q (.v d) st) := congrArg rho (wE_loc30)
theorem wS_asg30 {x0 x1 x2 x3 x4 x5 x6 x7 x8 x9 x10 x11 x12 x13 x14 x15 x16 x17 x18 x19 x20 x21 x22 x23 x24 x25 x26 x27 x28 x29 : Option D} {y : Option D} : wS P go (.asg 30 e) (x0 :: x1 :: x2 :: x3 :: x4 :: x5 :: x6 :: x7 :: x8 :: x9 :: x10 :: x11 :: x12 :: x13 :: x14 :: x15 :: x16 :: x17 :: x18 :: x19 :: x20 :: x21 :: x22 :: x23 :: x24 :: x25 :: x26 :: x27 :: x28 :: x29 :: y :: env) st N T XX = wE P go e (x0 :: x1 :: x2 :: x3 :: x4 :: x5 :: x6 :: x7 :: x8 :: x9 :: x10 :: x11 :: x12 :: x13 :: x14 :: x15 :: x16 :: x17 :: x18 :: x19 :: x20 :: x21 :: x22 :: x23 :: x24 :: x25 :: x26 :: x27 :: x28 :: x29 :: y :: env) st (fun v s => wM v s fun d s2 => N (x0 :: x1 :: x2 :: x3 :: x4 :: x5 :: x6 :: x7 :: x8 :: x9 :: x10 :: x11 :: x12 :: x13 :: x14 :: x15 :: x16 :: x17 :: x18 :: x19 :: x20 :: x21 :: x22 :: x23 :: x24 :: x25 :: x26 :: x27 :: x28 :: x29 :: some d :: env) s2) (fun c fs s => XX c fs (x0 :: x1 :: x2 :: x3 :: x4 :: x5 :: x6 :: x7 :: x8 :: x9 :: x10 :: x11 :: x12 :: x13 :: x14 :: x15 :: x16 :: x17 :: x18 :: x19 :: x20 :: x21 :: x22 :: x23 :: x24 :: x25 :: x26 :: x27 :: x28 :: x29 :: y :: env) s) := by
  unfold wS wE; conv => lhs; unfold exS
  rw [OX_out]; rfl
@[simp ↓] theorem wS_asg30_r {x0 x1 x2 x3 x4 x5 x6 x7 x8 x9 x10 x11 x12 x13 x14 x15 x16 x17 x18 x19 x20 x21 x22 x23 x24 x25 x26 x27 x28 x29 : Option D} {y : Option D} : rho (wS P go (.asg 30 e) (x0 :: x1 :: x2 :: x3 :: x4 :: x5 :: x6 :: x7 :: x8 :: x9 :: x10 :: x11 :: x12 :: x13 :: x14 :: x15 :: x16 :: x17 :: x18 :: x19 :: x20 :: x21 :: x22 :: x23 :: x24 :: x25 :: x26 :: x27 :: x28 :: x29 :: y :: env) st N T XX) = rho (wE P go e (x0 :: x1 :: x2 :: x3 :: x4 :: x5 :: x6 :: x7 :: x8 :: x9 :: x10 :: x11 :: x12 :: x13 :: x14 :: x15 :: x16 :: x17 :: x18 :: x19 :: x20 :: x21 :: x22 :: x23 :: x24 :: x25 :: x26 :: x27 :: x28 :: x29 :: y :: env) st (fun v s => wM v s fun d s2 => N (x0 :: x1 :: x2 :: x3 :: x4 :: x5 :: x6 :: x7 :: x8 :: x9 :: x10 :: x11 :: x12 :: x13 :: x14 :: x15 :: x16 :: x17 :: x18 :: x19 :: x20 :: x21 :: x22 :: x23 :: x24 :: x25 :: x26 :: x27 :: x28 :: x29 :: some d :: env) s2) (fun c fs s => XX c fs (x0 :: x1 :: x2 :: x3 :: x4 :: x5 :: x6 :: x7 :: x8 :: x9 :: x10 :: x11 :: x12 :: x13 :: x14 :: x15 :: x16 :: x17 :: x18 :: x19 :: x20 :: x21 :: x22 :: x23 :: x24 :: x25 :: x26 :: x27 :: x28 :: x29 :: y :: env) s)) := congrArg rho (wS_asg30)
theorem wE_loc31 {x0 x1 x2 x3 x4 x5 x6 x7 x8 x9 x10 x11 x12 x13 x14 x15 x16 x17 x18 x19 x20 x21 x22 x23 x24 x25 x26 x27 x28 x29 x30 : Option D} : wE P go (.loc 31) (x0 :: x1 :: x2 :: x3 :: x4 :: x5 :: x6 :: x7 :: x8 :: x9 :: x10 :: x11 :: x12 :: x13 :: x14 :: x15 :: x16 :: x17 :: x18 :: x19 :: x20 :: x21 :: x22 :: x23 :: x24 :: x25 :: x26 :: x27 :: x28 :: x29 :: x30 :: some d :: env) st Q X = Q (.v d) st := rfl
@[simp ↓] theorem wE_loc31_r {x0 x1 x2 x3 x4 x5 x6 x7 x8 x9 x10 x11 x12 x13 x14 x15 x16 x17 x18 x19 x20 x21 x22 x23 x24 x25 x26 x27 x28 x29 x30 : Option D} : rho (wE P go (.loc 31) (x0 :: x1 :: x2 :: x3 :: x4 :: x5 :: x6 :: x7 :: x8 :: x9 :: x10 :: x11 :: x12 :: x13 :: x14 :: x15 :: x16 :: x17 :: x18 :: x19 :: x20 :: x21 :: x22 :: x23 :: x24 :: x25 :: x26 :: x27 :: x28 :: x29 :: x30 :: some d :: env) st Q X) = rho (Q (.v d) st) := congrArg rho (wE_loc31)
theorem wS_asg31 {x0 x1 x2 x3 x4 x5 x6 x7 x8 x9 x10 x11 x12 x13 x14 x15 x16 x17 x18 x19 x20 x21 x22 x23 x24 x25 x26 x27 x28 x29 x30 : Option D} {y : Option D} : wS P go (.asg 31 e) (x0 :: x1 :: x2 :: x3 :: x4 :: x5 :: x6 :: x7 :: x8 :: x9 :: x10 :: x11 :: x12 :: x13 :: x14 :: x15 :: x16 :: x17 :: x18 :: x19 :: x20 :: x21 :: x22 :: x23 :: x24 :: x25 :: x26 :: x27 :: x28 :: x29 :: x30 :: y :: env) st N T XX = wE P go e (x0 :: x1 :: x2 :: x3 :: x4 :: x5 :: x6 :: x7 :: x8 :: x9 :: x10 :: x11 :: x12 :: x13 :: x14 :: x15 :: x16 :: x17 :: x18 :: x19 :: x20 :: x21 :: x22 :: x23 :: x24 :: x25 :: x26 :: x27 :: x28 :: x29 :: x30 :: y :: env) st (fun v s => wM v s fun d s2 => N (x0 :: x1 :: x2 :: x3 :: x4 :: x5 :: x6 :: x7 :: x8 :: x9 :: x10 :: x11 :: x12 :: x13 :: x14 :: x15 :: x16 :: x17 :: x18 :: x19 :: x20 :: x21 :: x22 :: x23 :: x24 :: x25 :: x26 :: x27 :: x28 :: x29 :: x30 :: some d :: env) s2) (fun c fs s => XX c fs (x0 :: x1 :: x2 :: x3 :: x4 :: x5 :: x6 :: x7 :: x8 :: x9 :: x10 :: x11 :: x12 :: x13 :: x14 :: x15 :: x16 :: x17 :: x18 :: x19 :: x20 :: x21 :: x22 :: x23 :: x24 :: x25 :: x26 :: x27 :: x28 :: x29 :: x30 :: y :: env) s) := by
  unfold wS wE; conv => lhs; unfold exS
  rw [OX_out]; rfl
@[simp ↓] theorem wS_asg31_r {x0 x1 x2 x3 x4 x5 x6 x7 x8 x9 x10 x11 x12 x13 x14 x15 x16 x17 x18 x19 x20 x21 x22 x23 x24 x25 x26 x27 x28 x29 x30 : Option D} {y : Option D} : rho (wS P go (.asg 31 e) (x0 :: x1 :: x2 :: x3 :: x4 :: x5 :: x6 :: x7 :: x8 :: x9 :: x10 :: x11 :: x12 :: x13 :: x14 :: x15 :: x16 :: x17 :: x18 :: x19 :: x20 :: x21 :: x22 :: x23 :: x24 :: x25 :: x26 :: x27 :: x28 :: x29 :: x30 :: y :: env) st N T XX) = rho (wE P go e (x0 :: x1 :: x2 :: x3 :: x4 :: x5 :: x6 :: x7 :: x8 :: x9 :: x10 :: x11 :: x12 :: x13 :: x14 :: x15 :: x16 :: x17 :: x18 :: x19 :: x20 :: x21 :: x22 :: x23 :: x24 :: x25 :: x26 :: x27 :: x28 :: x29 :: x30 :: y :: env) st (fun v s => wM v s fun d s2 => N (x0 :: x1 :: x2 :: x3 :: x4 :: x5 :: x6 :: x7 :: x8 :: x9 :: x10 :: x11 :: x12 :: x13 :: x14 :: x15 :: x16 :: x17 :: x18 :: x19 :: x20 :: x21 :: x22 :: x23 :: x24 :: x25 :: x26 :: x27 :: x28 :: x29 :: x30 :: some d :: env) s2) (fun c fs s => XX c fs (x0 :: x1 :: x2 :: x3 :: x4 :: x5 :: x6 :: x7 :: x8 :: x9 :: x10 :: x11 :: x12 :: x13 :: x14 :: x15 :: x16 :: x17 :: x18 :: x19 :: x20 :: x21 :: x22 :: x23 :: x24 :: x25 :: x26 :: x27 :: x28 :: x29 :: x30 :: y :: env) s)) := congrArg rho (wS_asg31)
theorem wE_loc32 {x0 x1 x2 x3 x4 x5 x6 x7 x8 x9 x10 x11 x12 x13 x14 x15 x16 x17 x18 x19 x20 x21 x22 x23 x24 x25 x26 x27 x28 x29 x30 x31 : Option D} : wE P go (.loc 32) (x0 :: x1 :: x2 :: x3 :: x4 :: x5 :: x6 :: x7 :: x8 :: x9 :: x10 :: x11 :: x12 :: x13 :: x14 :: x15 :: x16 :: x17 :: x18 :: x19 :: x20 :: x21 :: x22 :: x23 :: x24 :: x25 :: x26 :: x27 :: x28 :: x29 :: x30 :: x31 :: some d :: env) st Q X = Q (.v d) st := rfl
@[simp ↓] theorem wE_loc32_r {x0 x1 x2 x3 x4 x5 x6 x7 x8 x9 x10 x11 x12 x13 x14 x15 x16 x17 x18 x19 x20 x21 x22 x23 x24 x25 x26 x27 x28 x29 x30 x31 : Option D} : rho (wE P go (.loc 32) (x0 :: x1 :: x2 :: x3 :: x4 :: x5 :: x6 :: x7 :: x8 :: x9 :: x10 :: x11 :: x12 :: x13 :: x14 :: x15 :: x16 :: x17 :: x18 :: x19 :: x20 :: x21 :: x22 :: x23 :: x24 :: x25 :: x26 :: x27 :: x28 :: x29 :: x30 :: x31 :: some d :: env) st Q X) = rho (Q (.v d) st) := congrArg rho (wE_loc32)
theorem wS_asg32 {x0 x1 x2 x3 x4 x5 x6 x7 x8 x9 x10 x11 x12 x13 x14 x15 x16 x17 x18 x19 x20 x21 x22 x23 x24 x25 x26 x27 x28 x29 x30 x31 : Option D} {y : Option D} : wS P go (.asg 32 e) (x0 :: x1 :: x2 :: x3 :: x4 :: x5 :: x6 :: x7 :: x8 :: x9 :: x10 :: x11 :: x12 :: x13 :: x14 :: x15 :: x16 :: x17 :: x18 :: x19 :: x20 :: x21 :: x22 :: x23 :: x24 :: x25 :: x26 :: x27 :: x28 :: x29 :: x30 :: x31 :: y :: env) st N T XX = wE P go e (x0 :: x1 :: x2 :: x3 :: x4 :: x5 :: x6 :: x7 :: x8 :: x9 :: x10 :: x11 :: x12 :: x13 :: x14 :: x15 :: x16 :: x17 :: x18 :: x19 :: x20 :: x21 :: x22 :: x23 :: x24 :: x25 :: x26 :: x27 :: x28 :: x29 :: x30 :: x31 :: y :: env) st (fun v s => wM v s fun d s2 => N (x0 :: x1 :: x2 :: x3 :: x4 :: x5 :: x6 :: x7 :: x8 :: x9 :: x10 :: x11 :: x12 :: x13 :: x14 :: x15 :: x16 :: x17 :: x18 :: x19 :: x20 :: x21 :: x22 :: x23 :: x24 :: x25 :: x26 :: x27 :: x28 :: x29 :: x30 :: x31 :: some d :: env) s2) (fun c fs s => XX c fs (x0 :: x1 :: x2 :: x3 :: x4 :: x5 :: x6 :: x7 :: x8 :: x9 :: x10 :: x11 :: x12 :: x13 :: x14 :: x15 :: x16 :: x17 :: x18 :: x19 :: x20 :: x21 :: x22 :: x23 :: x24 :: x25 :: x26 :: x27 :: x28 :: x29 :: x30 :: x31 :: y :: env) s) := by
  unfold wS wE; conv => lhs; unfold exS
  rw [OX_out]; rfl
@[simp ↓] theorem wS_asg32_r {x0 x1 x2 x3 x4 x5 x6 x7 x8 x9 x10 x11 x12 x13 x14 x15 x16 x17 x18 x19 x20 x21 x22 x23 x24 x25 x26 x27 x28 x29 x30 x31 : Option D} {y : Option D} : rho (wS P go (.asg 32 e) (x0 :: x1 :: x2 :: x3 :: x4 :: x5 :: x6 :: x7 :: x8 :: x9 :: x10 :: x11 :: x12 :: x13 :: x14 :: x15 :: x16 :: x17 :: x18 :: x19 :: x20 :: x21 :: x22 :: x23 :: x24 :: x25 :: x26 :: x27 :: x28 :: x29 :: x30 :: x31 :: y :: env) st N T XX) = rho (wE P go e (x0 :: x1 :: x2 :: x3 :: x4 :: x5 :: x6 :: x7 :: x8 :: x9 :: x10 :: x11 :: x12 :: x13 :: x14 :: x15 :: x16 :: x17 :: x18 :: x19 :: x20 :: x21 :: x22 :: x23 :: x24 :: x25 :: x26 :: x27 :: x28 :: x29 :: x30 :: x31 :: y :: env) st (fun v s => wM v s fun d s2 => N (x0 :: x1 :: x2 :: x3 :: x4 :: x5 :: x6 :: x7 :: x8 :: x9 :: x10 :: x11 :: x12 :: x13 :: x14 :: x15 :: x16 :: x17 :: x18 :: x19 :: x20 :: x21 :: x22 :: x23 :: x24 :: x25 :: x26 :: x27 :: x28 :: x29 :: x30 :: x31 :: some d :: env) s2) (fun c fs s => XX c fs (x0 :: x1 :: x2 :: x3 :: x4 :: x5 :: x6 :: x7 :: x8 :: x9 :: x10 :: x11 :: x12 :: x13 :: x14 :: x15 :: x16 :: x17 :: x18 :: x19 :: x20 :: x21 :: x22 :: x23 :: x24 :: x25 :: x26 :: x27 :: x28 :: x29 :: x30 :: x31 :: y :: env) s)) := congrArg rho (wS_asg32)
theorem wE_loc33 {x0 x1 x2 x3 x4 x5 x6 x7 x8 x9 x10 x11 x12 x13 x14 x15 x16 x17 x18 x19 x20 x21 x22 x23 x24 x25 x26 x27 x28 x29 x30 x31 x32 : Option D} : wE P go (.loc 33) (x0 :: x1 :: x2 :: x3 :: x4 :: x5 :: x6 :: x7 :: x8 :: x9 :: x10 :: x11 :: x12 :: x13 :: x14 :: x15 :: x16 :: x17 :: x18 :: x19 :: x20 :: x21 :: x22 :: x23 :: x24 :: x25 :: x26 :: x27 :: x28 :: x29 :: x30 :: x31 :: x32 :: some d :: env) st Q X = Q (.v d) st := rfl
@[simp ↓] theorem wE_loc33_r {x0 x1 x2 x3 x4 x5 x6 x7 x8 x9 x10 x11 x12 x13 x14 x15 x16 x17 x18 x19 x20 x21 x22 x23 x24 x25 x26 x27 x28 x29 x30 x31 x32 : Option D} : rho (wE P go (.loc 33) (x0 :: x1 :: x2 :: x3 :: x4 :: x5 :: x6 :: x7 :: x8 :: x9 :: x10 :: x11 :: x12 :: x13 :: x14 :: x15 :: x16 :: x17 :: x18 :: x19 :: x20 :: x21 :: x22 :: x23 :: x24 :: x25 :: x26 :: x27 :: x28 :: x29 :: x30 :: x31 :: x32 :: some d :: env) st Q X) = rho (Q (.v d) st) := congrArg rho (wE_loc33)
theorem wS_asg33 {x0 x1 x2 x3 x4 x5 x6 x7 x8 x9 x10 x11 x12 x13 x14 x15 x16 x17 x18 x19 x20 x21 x22 x23 x24 x25 x26 x27 x28 x29 x30 x31 x32 : Option D} {y : Option D} : wS P go (.asg 33 e) (x0 :: x1 :: x2 :: x3 :: x4 :: x5 :: x6 :: x7 :: x8 :: x9 :: x10 :: x11 :: x12 :: x13 :: x14 :: x15 :: x16 :: x17 :: x18 :: x19 :: x20 :: x21 :: x22 :: x23 :: x24 :: x25 :: x26 :: x27 :: x28 :: x29 :: x30 :: x31 :: x32 :: y :: env) st N T XX = wE P go e (x0 :: x1 :: x2 :: x3 :: x4 :: x5 :: x6 :: x7 :: x8 :: x9 :: x10 :: x11 :: x12 :: x13 :: x14 :: x15 :: x16 :: x17 :: x18 :: x19 :: x20 :: x21 :: x22 :: x23 :: x24 :: x25 :: x26 :: x27 :: x28 :: x29 :: x30 :: x31 :: x32 :: y :: env) st (fun v s => wM v s fun d s2 => N (x0 :: x1 :: x2 :: x3 :: x4 :: x5 :: x6 :: x7 :: x8 :: x9 :: x10 :: x11 :: x12 :: x13 :: x14 :: x15 :: x16 :: x17 :: x18 :: x19 :: x20 :: x21 :: x22 :: x23 :: x24 :: x25 :: x26 :: x27 :: x28 :: x29 :: x30 :: x31 :: x32 :: some d :: env) s2) (fun c fs s => XX c fs (x0 :: x1 :: x2 :: x3 :: x4 :: x5 :: x6 :: x7 :: x8 :: x9 :: x10 :: x11 :: x12 :: x13 :: x14 :: x15 :: x16 :: x17 :: x18 :: x19 :: x20 :: x21 :: x22 :: x23 :: x24 :: x25 :: x26 :: x27 :: x28 :: x29 :: x30 :: x31 :: x32 :: y :: env) s) := by
  unfold wS wE; conv => lhs; unfold exS
  rw [OX_out]; rfl
@[simp ↓] theorem wS_asg33_r {x0 x1 x2 x3 x4 x5 x6 x7 x8 x9 x10 x11 x12 x13 x14 x15 x16 x17 x18 x19 x20 x21 x22 x23 x24 x25 x26 x27 x28 x29 x30 x31 x32 : Option D} {y : Option D} : rho (wS P go (.asg 33 e) (x0 :: x1 :: x2 :: x3 :: x4 :: x5 :: x6 :: x7 :: x8 :: x9 :: x10 :: x11 :: x12 :: x13 :: x14 :: x15 :: x16 :: x17 :: x18 :: x19 :: x20 :: x21 :: x22 :: x23 :: x24 :: x25 :: x26 :: x27 :: x28 :: x29 :: x30 :: x31 :: x32 :: y :: env) st N T XX) = rho (wE P go e (x0 :: x1 :: x2 :: x3 :: x4 :: x5 :: x6 :: x7 :: x8 :: x9 :: x10 :: x11 :: x12 :: x13 :: x14 :: x15 :: x16 :: x17 :: x18 :: x19 :: x20 :: x21 :: x22 :: x23 :: x24 :: x25 :: x26 :: x27 :: x28 :: x29 :: x30 :: x31 :: x32 :: y :: env) st (fun v s => wM v s fun d s2 => N (x0 :: x1 :: x2 :: x3 :: x4 :: x5 :: x6 :: x7 :: x8 :: x9 :: x10 :: x11 :: x12 :: x13 :: x14 :: x15 :: x16 :: x17 :: x18 :: x19 :: x20 :: x21 :: x22 :: x23 :: x24 :: x25 :: x26 :: x27 :: x28 :: x29 :: x30 :: x31 :: x32 :: some d :: env) s2) (fun c fs s => XX c fs (x0 :: x1 :: x2 :: x3 :: x4 :: x5 :: x6 :: x7 :: x8 :: x9 :: x10 :: x11 :: x12 :: x13 :: x14 :: x15 :: x16 :: x17 :: x18 :: x19 :: x20 :: x21 :: x22 :: x23 :: x24 :: x25 :: x26 :: x27 :: x28 :: x29 :: x30 :: x31 :: x32 :: y :: env) s)) := congrArg rho (wS_asg33)
theorem wE_loc34 {x0 x1 x2 x3 x4 x5 x6 x7 x8 x9 x10 x11 x12 x13 x14 x15 x16 x17 x18 x19 x20 x21 x22 x23 x24 x25 x26 x27 x28 x29 x30 x31 x32 x33 : Option D} : wE P go (.loc 34) (x0 :: x1 :: x2 :: x3 :: x4 :: x5 :: x6 :: x7 :: x8 :: x9 :: x10 :: x11 :: x12 :: x13 :: x14 :: x15 :: x16 :: x17 :: x18 :: x19 :: x20 :: x21 :: x22 :: x23 :: x24 :: x25 :: x26 :: x27 :: x28 :: x29 :: x30 :: x31 :: x32 :: x33 :: some d :: env) st Q X = Q (.v d) st := rfl
@[simp ↓] theorem wE_loc34_r {x0 x1 x2 x3 x4 x5 x6 x7 x8 x9 x10 x11 x12 x13 x14 x15 x16 x17 x18 x19 x20 x21 x22 x23 x24 x25 x26 x27 x28 x29 x30 x31 x32 x33 : Option D} : rho (wE P go (.loc 34) (x0 :: x1 :: x2 :: x3 :: x4 :: x5 :: x6 :: x7 :: x8 :: x9 :: x10 :: x11 :: x12 :: x13 :: x14 :: x15 :: x16 :: x17 :: x18 :: x19 :: x20 :: x21 :: x22 :: x23 :: x24 :: x25 :: x26 :: x27 :: x28 :: x29 :: x30 :: x31 :: x32 :: x33 :: some d :: env) st Q X) = rho (Q (.v d) st) := congrArg rho (wE_loc34)
theorem wS_asg34 {x0 x1 x2 x3 x4 x5 x6 x7 x8 x9 x10 x11 x12 x13 x14 x15 x16 x17 x18 x19 x20 x21 x22 x23 x24 x25 x26 x27 x28 x29 x30 x31 x32 x33 : Option D} {y : Option D} : wS P go (.asg 34 e) (x0 :: x1 :: x2 :: x3 :: x4 :: x5 :: x6 :: x7 :: x8 :: x9 :: x10 :: x11 :: x12 :: x13 :: x14 :: x15 :: x16 :: x17 :: x18 :: x19 :: x20 :: x21 :: x22 :: x23 :: x24 :: x25 :: x26 :: x27 :: x28 :: x29 :: x30 :: x31 :: x32 :: x33 :: y :: env) st N T XX = wE P go e (x0 :: x1 :: x2 :: x3 :: x4 :: x5 :: x6 :: x7 :: x8 :: x9 :: x10 :: x11 :: x12 :: x13 :: x14 :: x15 :: x16 :: x17 :: x18 :: x19 :: x20 :: x21 :: x22 :: x23 :: x24 :: x25 :: x26 :: x27 :: x28 :: x29 :: x30 :: x31 :: x32 :: x33 :: y :: env) st (fun v s => wM v s fun d s2 => N (x0 :: x1 :: x2 :: x3 :: x4 :: x5 :: x6 :: x7 :: x8 :: x9 :: x10 :: x11 :: x12 :: x13 :: x14 :: x15 :: x16 :: x17 :: x18 :: x19 :: x20 :: x21 :: x22 :: x23 :: x24 :: x25 :: x26 :: x27 :: x28 :: x29 :: x30 :: x31 :: x32 :: x33 :: some d :: env) s2) (fun c fs s => XX c fs (x0 :: x1 :: x2 :: x3 :: x4 :: x5 :: x6 :: x7 :: x8 :: x9 :: x10 :: x11 :: x12 :: x13 :: x14 :: x15 :: x16 :: x17 :: x18 :: x19 :: x20 :: x21 :: x22 :: x23 :: x24 :: x25 :: x26 :: x27 :: x28 :: x29 :: x30 :: x31 :: x32 :: x33 :: y :: env) s) := by
  unfold wS wE; conv => lhs; unfold exS
  rw [OX_out]; rfl
@[simp ↓] theorem wS_asg34_r {x0 x1 x2 x3 x4 x5 x6 x7 x8 x9 x10 x11 x12 x13 x14 x15 x16 x17 x18 x19 x20 x21 x22 x23 x24 x25 x26 x27 x28 x29 x30 x31 x32 x33 : Option D} {y : Option D} : rho (wS P go (.asg 34 e) (x0 :: x1 :: x2 :: x3 :: x4 :: x5 :: x6 :: x7 :: x8 :: x9 :: x10 :: x11 :: x12 :: x13 :: x14 :: x15 :: x16 :: x17 :: x18 :: x19 :: x20 :: x21 :: x22 :: x23 :: x24 :: x25 :: x26 :: x27 :: x28 :: x29 :: x30 :: x31 :: x32 :: x33 :: y :: env) st N T XX) = rho (wE P go e (x0 :: x1 :: x2 :: x3 :: x4 :: x5 :: x6 :: x7 :: x8 :: x9 :: x10 :: x11 :: x12 :: x13 :: x14 :: x15 :: x16 :: x17 :: x18 :: x19 :: x20 :: x21 :: x22 :: x23 :: x24 :: x25 :: x26 :: x27 :: x28 :: x29 :: x30 :: x31 :: x32 :: x33 :: y :: env) st (fun v s => wM v s fun d s2 => N (x0 :: x1 :: x2 :: x3 :: x4 :: x5 :: x6 :: x7 :: x8 :: x9 :: x10 :: x11 :: x12 :: x13 :: x14 :: x15 :: x16 :: x17 :: x18 :: x19 :: x20 :: x21 :: x22 :: x23 :: x24 :: x25 :: x26 :: x27 :: x28 :: x29 :: x30 :: x31 :: x32 :: x33 :: some d :: env) s2) (fun c fs s => XX c fs (x0 :: x1 :: x2 :: x3 :: x4 :: x5 :: x6 :: x7 :: x8 :: x9 :: x10 :: x11 :: x12 :: x13 :: x14 :: x15 :: x16 :: x17 :: x18 :: x19 :: x20 :: x21 :: x22 :: x23 :: x24 :: x25 :: x26 :: x27 :: x28 :: x29 :: x30 :: x31 :: x32 :: x33 :: y :: env) s)) := congrArg rho (wS_asg34)
theorem wE_loc35 {x0 x1 x2 x3 x4 x5 x6 x7 x8 x9 x10 x11 x12 x13 x14 x15 x16 x17 x18 x19 x20 x21 x22 x23 x24 x25 x26 x27 x28 x29 x30 x31 x32 x33 x34 : Option D} : wE P go (.loc 35) (x0 :: x1 :: x2 :: x3 :: x4 :: x5 :: x6 :: x7 :: x8 :: x9 :: x10 :: x11 :: x12 :: x13 :: x14 :: x15 :: x16 :: x17 :: x18 :: x19 :: x20 :: x21 :: x22 :: x23 :: x24 :: x25 :: x26 :: x27 :: x28 :: x29 :: x30 :: x31 :: x32 :: x33 :: x34 :: some d :: env) st Q X = Q (.v d) st := rfl
@[simp ↓] theorem wE_loc35_r {x0 x1 x2 x3 x4 x5 x6 x7 x8 x9 x10 x11 x12 x13 x14 x15 x16 x17 x18 x19 x20 x21 x22 x23 x24 x25 x26 x27 x28 x29 x30 x31 x32 x33 x34 : Option D} : rho (wE P go (.loc 35) (x0 :: x1 :: x2 :: x3 :: x4 :: x5 :: x6 :: x7 :: x8 :: x9 :: x10 :: x11 :: x12 :: x13 :: x14 :: x15 :: x16 :: x17 :: x18 :: x19 :: x20 :: x21 :: x22 :: x23 :: x24 :: x25 :: x26 :: x27 :: x28 :: x29 :: x30 :: x31 :: x32 :: x33 :: x34 :: some d :: env) st Q X) = rho (Q (.v d) st) := congrArg rho (wE_loc35)
theorem wS_asg35 {x0 x1 x2 x3 x4 x5 x6 x7 x8 x9 x10 x11 x12 x13 x14 x15 x16 x17 x18 x19 x20 x21 x22 x23 x24 x25 x26 x27 x28 x29 x30 x31 x32 x33 x34 : Option D} {y : Option D} : wS P go (.asg 35 e) (x0 :: x1 :: x2 :: x3 :: x4 :: x5 :: x6 :: x7 :: x8 :: x9 :: x10 :: x11 :: x12 :: x13 :: x14 :: x15 :: x16 :: x17 :: x18 :: x19 :: x20 :: x21 :: x22 :: x23 :: x24 :: x25 :: x26 :: x27 :: x28 :: x29 :: x30 :: x31 :: x32 :: x33 :: x34 :: y :: env) st N T XX = wE P go e (x0 :: x1 :: x2 :: x3 :: x4 :: x5 :: x6 :: x7 :: x8 :: x9 :: x10 :: x11 :: x12 :: x13 :: x14 :: x15 :: x16 :: x17 :: x18 :: x19 :: x20 :: x21 :: x22 :: x23 :: x24 :: x25 :: x26 :: x27 :: x28 :: x29 :: x30 :: x31 :: x32 :: x33 :: x34 :: y :: env) st (fun v s => wM v s fun d s2 => N (x0 :: x1 :: x2 :: x3 :: x4 :: x5 :: x6 :: x7 :: x8 :: x9 :: x10 :: x11 :: x12 :: x13 :: x14 :: x15 :: x16 :: x17 :: x18 :: x19 :: x20 :: x21 :: x22 :: x23 :: x24 :: x25 :: x26 :: x27 :: x28 :: x29 :: x30 :: x31 :: x32 :: x33 :: x34 :: some d :: env) s2) (fun c fs s => XX c fs (x0 :: x1 :: x2 :: x3 :: x4 :: x5 :: x6 :: x7 :: x8 :: x9 :: x10 :: x11 :: x12 :: x13 :: x14 :: x15 :: x16 :: x17 :: x18 :: x19 :: x20 :: x21 :: x22 :: x23 :: x24 :: x25 :: x26 :: x27 :: x28 :: x29 :: x30 :: x31 :: x32 :: x33 :: x34 :: y :: env) s) := by
  unfold wS wE; conv => lhs; unfold exS
  rw [OX_out]; rfl
@[simp ↓] theorem wS_asg35_r {x0 x1 x2 x3 x4 x5 x6 x7 x8 x9 x10 x11 x12 x13 x14 x15 x16 x17 x18 x19 x20 x21 x22 x23 x24 x25 x26 x27 x28 x29 x30 x31 x32 x33 x34 : Option D} {y : Option D} : rho (wS P go (.asg 35 e) (x0 :: x1 :: x2 :: x3 :: x4 :: x5 :: x6 :: x7 :: x8 :: x9 :: x10 :: x11 :: x12 :: x13 :: x14 :: x15 :: x16 :: x17 :: x18 :: x19 :: x20 :: x21 :: x22 :: x23 :: x24 :: x25 :: x26 :: x27 :: x28 :: x29 :: x30 :: x31 :: x32 :: x33 :: x34 :: y :: env) st N T XX) = rho (wE P go e (x0 :: x1 :: x2 :: x3 :: x4 :: x5 :: x6 :: x7 :: x8 :: x9 :: x10 :: x11 :: x12 :: x13 :: x14 :: x15 :: x16 :: x17 :: x18 :: x19 :: x20 :: x21 :: x22 :: x23 :: x24 :: x25 :: x26 :: x27 :: x28 :: x29 :: x30 :: x31 :: x32 :: x33 :: x34 :: y :: env) st (fun v s => wM v s fun d s2 => N (x0 :: x1 :: x2 :: x3 :: x4 :: x5 :: x6 :: x7 :: x8 :: x9 :: x10 :: x11 :: x12 :: x13 :: x14 :: x15 :: x16 :: x17 :: x18 :: x19 :: x20 :: x21 :: x22 :: x23 :: x24 :: x25 :: x26 :: x27 :: x28 :: x29 :: x30 :: x31 :: x32 :: x33 :: x34 :: some d :: env) s2) (fun c fs s => XX c fs (x0 :: x1 :: x2 :: x3 :: x4 :: x5 :: x6 :: x7 :: x8 :: x9 :: x10 :: x11 :: x12 :: x13 :: x14 :: x15 :: x16 :: x17 :: x18 :: x19 :: x20 :: x21 :: x22 :: x23 :: x24 :: x25 :: x26 :: x27 :: x28 :: x29 :: x30 :: x31 :: x32 :: x33 :: x34 :: y :: env) s)) := congrArg rho (wS_asg35)
theorem wE_loc36 {x0 x1 x2 x3 x4 x5 x6 x7 x8 x9 x10 x11 x12 x13 x14 x15 x16 x17 x18 x19 x20 x21 x22 x23 x24 x25 x26 x27 x28 x29 x30 x31 x32 x33 x34 x35 : Option D} : wE P go (.loc 36) (x0 :: x1 :: x2 :: x3 :: x4 :: x5 :: x6 :: x7 :: x8 :: x9 :: x10 :: x11 :: x12 :: x13 :: x14 :: x15 :: x16 :: x17 :: x18 :: x19 :: x20 :: x21 :: x22 :: x23 :: x24 :: x25 :: x26 :: x27 :: x28 :: x29 :: x30 :: x31 :: x32 :: x33 :: x34 :: x35 :: some d :: env) st Q X = Q (.v d) st := rfl
@[simp ↓] theorem wE_loc36_r {x0 x1 x2 x3 x4 x5 x6 x7 x8 x9 x10 x11 x12 x13 x14 x15 x16 x17 x18 x19 x20 x21 x22 x23 x24 x25 x26 x27 x28 x29 x30 x31 x32 x33 x34 x35 : Option D} : rho (wE P go (.loc 36) (x0 :: x1 :: x2 :: x3 :: x4 :: x5 :: x6 :: x7 :: x8 :: x9 :: x10 :: x11 :: x12 :: x13 :: x14 :: x15 :: x16 :: x17 :: x18 :: x19 :: x20 :: x21 :: x22 :: x23 :: x24 :: x25 :: x26 :: x27 :: x28 :: x29 :: x30 :: x31 :: x32 :: x33 :: x34 :: x35 :: some d :: env) st Q X) = rho (Q (.v d) st) := congrArg rho (wE_loc36)
theorem wS_asg36 {x0 x1 x2 x3 x4 x5 x6 x7 x8 x9 x10 x11 x12 x13 x14 x15 x16 x17 x18 x19 x20 x21 x22 x23 x24 x25 x26 x27 x28 x29 x30 x31 x32 x33 x34 x35 : Option D} {y : Option D} : wS P go (.asg 36 e) (x0 :: x1 :: x2 :: x3 :: x4 :: x5 :: x6 :: x7 :: x8 :: x9 :: x10 :: x11 :: x12 :: x13 :: x14 :: x15 :: x16 :: x17 :: x18 :: x19 :: x20 :: x21 :: x22 :: x23 :: x24 :: x25 :: x26 :: x27 :: x28 :: x29 :: x30 :: x31 :: x32 :: x33 :: x34 :: x35 :: y :: env) st N T XX = wE P go e (x0 :: x1 :: x2 :: x3 :: x4 :: x5 :: x6 :: x7 :: x8 :: x9 :: x10 :: x11 :: x12 :: x13 :: x14 :: x15 :: x16 :: x17 :: x18 :: x19 :: x20 :: x21 :: x22 :: x23 :: x24 :: x25 :: x26 :: x27 :: x28 :: x29 :: x30 :: x31 :: x32 :: x33 :: x34 :: x35 :: y :: env) st (fun v s => wM v s fun d s2 => N (x0 :: x1 :: x2 :: x3 :: x4 :: x5 :: x6 :: x7 :: x8 :: x9 :: x10 :: x11 :: x12 :: x13 :: x14 :: x15 :: x16 :: x17 :: x18 :: x19 :: x20 :: x21 :: x22 :: x23 :: x24 :: x25 :: x26 :: x27 :: x28 :: x29 :: x30 :: x31 :: x32 :: x33 :: x34 :: x35 :: some d :: env) s2) (fun c fs s => XX c fs (x0 :: x1 :: x2 :: x3 :: x4 :: x5 :: x6 :: x7 :: x8 :: x9 :: x10 :: x11 :: x12 :: x13 :: x14 :: x15 :: x16 :: x17 :: x18 :: x19 :: x20 :: x21 :: x22 :: x23 :: x24 :: x25 :: x26 :: x27 :: x28 :: x29 :: x30 :: x31 :: x32 :: x33 :: x34 :: x35 :: y :: env) s) := by
  unfold wS wE; conv => lhs; unfold exS
  rw [OX_out]; rfl
@[simp ↓] theorem wS_asg36_r {x0 x1 x2 x3 x4 x5 x6 x7 x8 x9 x10 x11 x12 x13 x14 x15 x16 x17 x18 x19 x20 x21 x22 x23 x24 x25 x26 x27 x28 x29 x30 x31 x32 x33 x34 x35 : Option D} {y : Option D} : rho (wS P go (.asg 36 e) (x0 :: x1 :: x2 :: x3 :: x4 :: x5 :: x6 :: x7 :: x8 :: x9 :: x10 :: x11 :: x12 :: x13 :: x14 :: x15 :: x16 :: x17 :: x18 :: x19 :: x20 :: x21 :: x22 :: x23 :: x24 :: x25 :: x26 :: x27 :: x28 :: x29 :: x30 :: x31 :: x32 :: x33 :: x34 :: x35 :: y :: env) st N T XX) = rho (wE P go e (x0 :: x1 :: x2 :: x3 :: x4 :: x5 :: x6 :: x7 :: x8 :: x9 :: x10 :: x11 :: x12 :: x13 :: x14 :: x15 :: x16 :: x17 :: x18 :: x19 :: x20 :: x21 :: x22 :: x23 :: x24 :: x25 :: x26 :: x27 :: x28 :: x29 :: x30 :: x31 :: x32 :: x33 :: x34 :: x35 :: y :: env) st (fun v s => wM v s fun d s2 => N (x0 :: x1 :: x2 :: x3 :: x4 :: x5 :: x6 :: x7 :: x8 :: x9 :: x10 :: x11 :: x12 :: x13 :: x14 :: x15 :: x16 :: x17 :: x18 :: x19 :: x20 :: x21 :: x22 :: x23 :: x24 :: x25 :: x26 :: x27 :: x28 :: x29 :: x30 :: x31 :: x32 :: x33 :: x34 :: x35 :: some d :: env) s2) (fun c fs s => XX c fs (x0 :: x1 :: x2 :: x3 :: x4 :: x5 :: x6 :: x7 :: x8 :: x9 :: x10 :: x11 :: x12 :: x13 :: x14 :: x15 :: x16 :: x17 :: x18 :: x19 :: x20 :: x21 :: x22 :: x23 :: x24 :: x25 :: x26 :: x27 :: x28 :: x29 :: x30 :: x31 :: x32 :: x33 :: x34 :: x35 :: y :: env) s)) := congrArg rho (wS_asg36)
theorem wE_loc37 {x0 x1 x2 x3 x4 x5 x6 x7 x8 x9 x10 x11 x12 x13 x14 x15 x16 x17 x18 x19 x20 x21 x22 x23 x24 x25 x26 x27 x28 x29 x30 x31 x32 x33 x34 x35 x36 : Option D} : wE P go (.loc 37) (x0 :: x1 :: x2 :: x3 :: x4 :: x5 :: x6 :: x7 :: x8 :: x9 :: x10 :: x11 :: x12 :: x13 :: x14 :: x15 :: x16 :: x17 :: x18 :: x19 :: x20 :: x21 :: x22 :: x23 :: x24 :: x25 :: x26 :: x27 :: x28 :: x29 :: x30 :: x31 :: x32 :: x33 :: x34 :: x35 :: x36 :: some d :: env) st Q X = Q (.v d) st := rfl
@[simp ↓] theorem wE_loc37_r {x0 x1 x2 x3 x4 x5 x6 x7 x8 x9 x10 x11 x12 x13 x14 x15 x16 x17 x18 x19 x20 x21 x22 x23 x24 x25 x26 x27 x28 x29 x30 x31 x32 x33 x34 x35 x36 : Option D} : rho (wE P go (.loc 37) (x0 :: x1 :: x2 :: x3 :: x4 :: x5 :: x6 :: x7 :: x8 :: x9 :: x10 :: x11 :: x12 :: x13 :: x14 :: x15 :: x16 :: x17 :: x18 :: x19 :: x20 :: x21 :: x22 :: x23 :: x24 :: x25 :: x26 :: x27 :: x28 :: x29 :: x30 :: x31 :: x32 :: x33 :: x34 :: x35 :: x36 :: some d :: env) st Q X) = rho (Q (.v d) st) := congrArg rho (wE_loc37)
theorem wS_asg37 {x0 x1 x2 x3 x4 x5 x6 x7 x8 x9 x10 x11 x12 x13 x14 x15 x16 x17 x18 x19 x20 x21 x22 x23 x24 x25 x26 x27 x28 x29 x30 x31 x32 x33 x34 x35 x36 : Option D} {y : Option D} : wS P go (.asg 37 e) (x0 :: x1 :: x2 :: x3 :: x4 :: x5 :: x6 :: x7 :: x8 :: x9 :: x10 :: x11 :: x12 :: x13 :: x14 :: x15 :: x16 :: x17 :: x18 :: x19 :: x20 :: x21 :: x22 :: x23 :: x24 :: x25 :: x26 :: x27 :: x28 :: x29 :: x30 :: x31 :: x32 :: x33 :: x34 :: x35 :: x36 :: y :: env) st N T XX = wE P go e (x0 :: x1 :: x2 :: x3 :: x4 :: x5 :: x6 :: x7 :: x8 :: x9 :: x10 :: x11 :: x12 :: x13 :: x14 :: x15 :: x16 :: x17 :: x18 :: x19 :: x20 :: x21 :: x22 :: x23 :: x24 :: x25 :: x26 :: x27 :: x28 :: x29 :: x30 :: x31 :: x32 :: x33 :: x34 :: x35 :: x36 :: y :: env) st (fun v s => wM v s fun d s2 => N (x0 :: x1 :: x2 :: x3 :: x4 :: x5 :: x6 :: x7 :: x8 :: x9 :: x10 :: x11 :: x12 :: x13 :: x14 :: x15 :: x16 :: x17 :: x18 :: x19 :: x20 :: x21 :: x22 :: x23 :: x24 :: x25 :: x26 :: x27 :: x28 :: x29 :: x30 :: x31 :: x32 :: x33 :: x34 :: x35 :: x36 :: some d :: env) s2) (fun c fs s => XX c fs (x0 :: x1 :: x2 :: x3 :: x4 :: x5 :: x6 :: x7 :: x8 :: x9 :: x10 :: x11 :: x12 :: x13 :: x14 :: x15 :: x16 :: x17 :: x18 :: x19 :: x20 :: x21 :: x22 :: x23 :: x24 :: x25 :: x26 :: x27 :: x28 :: x29 :: x30 :: x31 :: x32 :: x33 :: x34 :: x35 :: x36 :: y :: env) s) := by
  unfold wS wE; conv => lhs; unfold exS
  rw [OX_out]; rfl
@[simp ↓] theorem wS_asg37_r {x0 x1 x2 x3 x4 x5 x6 x7 x8 x9 x10 x11 x12 x13 x14 x15 x16 x17 x18 x19 x20 x21 x22 x23 x24 x25 x26 x27 x28 x29 x30 x31 x32 x33 x34 x35 x36 : Option D} {y : Option D} : rho (wS P go (.asg 37 e) (x0 :: x1 :: x2 :: x3 :: x4 :: x5 :: x6 :: x7 :: x8 :: x9 :: x10 :: x11 :: x12 :: x13 :: x14 :: x15 :: x16 :: x17 :: x18 :: x19 :: x20 :: x21 :: x22 :: x23 :: x24 :: x25 :: x26 :: x27 :: x28 :: x29 :: x30 :: x31 :: x32 :: x33 :: x34 :: x35 :: x36 :: y :: env) st N T XX) = rho (wE P go e (x0 :: x1 :: x2 :: x3 :: x4 :: x5 :: x6 :: x7 :: x8 :: x9 :: x10 :: x11 :: x12 :: x13 :: x14 :: x15 :: x16 :: x17 :: x18 :: x19 :: x20 :: x21 :: x22 :: x23 :: x24 :: x25 :: x26 :: x27 :: x28 :: x29 :: x30 :: x31 :: x32 :: x33 :: x34 :: x35 :: x36 :: y :: env) st (fun v s => wM v s fun d s2 => N (x0 :: x1 :: x2 :: x3 :: x4 :: x5 :: x6 :: x7 :: x8 :: x9 :: x10 :: x11 :: x12 :: x13 :: x14 :: x15 :: x16 :: x17 :: x18 :: x19 :: x20 :: x21 :: x22 :: x23 :: x24 :: x25 :: x26 :: x27 :: x28 :: x29 :: x30 :: x31 :: x32 :: x33 :: x34 :: x35 :: x36 :: some d :: env) s2) (fun c fs s => XX c fs (x0 :: x1 :: x2 :: x3 :: x4 :: x5 :: x6 :: x7 :: x8 :: x9 :: x10 :: x11 :: x12 :: x13 :: x14 :: x15 :: x16 :: x17 :: x18 :: x19 :: x20 :: x21 :: x22 :: x23 :: x24 :: x25 :: x26 :: x27 :: x28 :: x29 :: x30 :: x31 :: x32 :: x33 :: x34 :: x35 :: x36 :: y :: env) s)) := congrArg rho (wS_asg37)
theorem wE_loc38 {x0 x1 x2 x3 x4 x5 x6 x7 x8 x9 x10 x11 x12 x13 x14 x15 x16 x17 x18 x19 x20 x21 x22 x23 x24 x25 x26 x27 x28 x29 x30 x31 x32 x33 x34 x35 x36 x37 : Option D} : wE P go (.loc 38) (x0 :: x1 :: x2 :: x3 :: x4 :: x5 :: x6 :: x7 :: x8 :: x9 :: x10 :: x11 :: x12 :: x13 :: x14 :: x15 :: x16 :: x17 :: x18 :: x19 :: x20 :: x21 :: x22 :: x23 :: x24 :: x25 :: x26 :: x27 :: x28 :: x29 :: x30 :: x31 :: x32 :: x33 :: x34 :: x35 :: x36 :: x37 :: some d :: env) st Q X = Q (.v d) st := rfl
@[simp ↓] theorem wE_loc38_r {x0 x1 x2 x3 x4 x5 x6 x7 x8 x9 x10 x11 x12 x13 x14 x15 x16 x17 x18 x19 x20 x21 x22 x23 x24 x25 x26 x27 x28 x29 x30 x31 x32 x33 x34 x35 x36 x37 : Option D} : rho (wE P go (.loc 38) (x0 :: x1 :: x2 :: x3 :: x4 :: x5 :: x6 :: x7 :: x8 :: x9 :: x10 :: x11 :: x12 :: x13 :: x14 :: x15 :: x16 :: x17 :: x18 :: x19 :: x20 :: x21 :: x22 :: x23 :: x24 :: x25 :: x26 :: x27 :: x28 :: x29 :: x30 :: x31 :: x32 :: x33 :: x34 :: x35 :: x36 :: x37 :: some d :: env) st Q X) = rho (Q (.v d) st) := congrArg rho (wE_loc38)
theorem wS_asg38 {x0 x1 x2 x3 x4 x5 x6 x7 x8 x9 x10 x11 x12 x13 x14 x15 x16 x17 x18 x19 x20 x21 x22 x23 x24 x25 x26 x27 x28 x29 x30 x31 x32 x33 x34 x35 x36 x37 : Option D} {y : Option D} : wS P go (.asg 38 e) (x0 :: x1 :: x2 :: x3 :: x4 :: x5 :: x6 :: x7 :: x8 :: x9 :: x10 :: x11 :: x12 :: x13 :: x14 :: x15 :: x16 :: x17 :: x18 :: x19 :: x20 :: x21 :: x22 :: x23 :: x24 :: x25 :: x26 :: x27 :: x28 :: x29 :: x30 :: x31 :: x32 :: x33 :: x34 :: x35 :: x36 :: x37 :: y :: env) st N T XX = wE P go e (x0 :: x1 :: x2 :: x3 :: x4 :: x5 :: x6 :: x7 :: x8 :: x9 :: x10 :: x11 :: x12 :: x13 :: x14 :: x15 :: x16 :: x17 :: x18 :: x19 :: x20 :: x21 :: x22 :: x23 :: x24 :: x25 :: x26 :: x27 :: x28 :: x29 :: x30 :: x31 :: x32 :: x33 :: x34 :: x35 :: x36 :: x37 :: y :: env) st (fun v s => wM v s fun d s2 => N (x0 :: x1 :: x2 :: x3 :: x4 :: x5 :: x6 :: x7 :: x8 :: x9 :: x10 :: x11 :: x12 :: x13 :: x14 :: x15 :: x16 :: x17 :: x18 :: x19 :: x20 :: x21 :: x22 :: x23 :: x24 :: x25 :: x26 :: x27 :: x28 :: x29 :: x30 :: x31 :: x32 :: x33 :: x34 :: x35 :: x36 :: x37 :: some d :: env) s2) (fun c fs s => XX c fs (x0 :: x1 :: x2 :: x3 :: x4 :: x5 :: x6 :: x7 :: x8 :: x9 :: x10 :: x11 :: x12 :: x13 :: x14 :: x15 :: x16 :: x17 :: x18 :: x19 :: x20 :: x21 :: x22 :: x23 :: x24 :: x25 :: x26 :: x27 :: x28 :: x29 :: x30 :: x31 :: x32 :: x33 :: x34 :: x35 :: x36 :: x37 :: y :: env) s) := by
  unfold wS wE; conv => lhs; unfold exS
  rw [OX_out]; rfl
@[simp ↓] theorem wS_asg38_r {x0 x1 x2 x3 x4 x5 x6 x7 x8 x9 x10 x11 x12 x13 x14 x15 x16 x17 x18 x19 x20 x21 x22 x23 x24 x25 x26 x27 x28 x29 x30 x31 x32 x33 x34 x35 x36 x37 : Option D} {y : Option D} : rho (wS P go (.asg 38 e) (x0 :: x1 :: x2 :: x3 :: x4 :: x5 :: x6 :: x7 :: x8 :: x9 :: x10 :: x11 :: x12 :: x13 :: x14 :: x15 :: x16 :: x17 :: x18 :: x19 :: x20 :: x21 :: x22 :: x23 :: x24 :: x25 :: x26 :: x27 :: x28 :: x29 :: x30 :: x31 :: x32 :: x33 :: x34 :: x35 :: x36 :: x37 :: y :: env) st N T XX) = rho (wE P go e (x0 :: x1 :: x2 :: x3 :: x4 :: x5 :: x6 :: x7 :: x8 :: x9 :: x10 :: x11 :: x12 :: x13 :: x14 :: x15 :: x16 :: x17 :: x18 :: x19 :: x20 :: x21 :: x22 :: x23 :: x24 :: x25 :: x26 :: x27 :: x28 :: x29 :: x30 :: x31 :: x32 :: x33 :: x34 :: x35 :: x36 :: x37 :: y :: env) st (fun v s => wM v s fun d s2 => N (x0 :: x1 :: x2 :: x3 :: x4 :: x5 :: x6 :: x7 :: x8 :: x9 :: x10 :: x11 :: x12 :: x13 :: x14 :: x15 :: x16 :: x17 :: x18 :: x19 :: x20 :: x21 :: x22 :: x23 :: x24 :: x25 :: x26 :: x27 :: x28 :: x29 :: x30 :: x31 :: x32 :: x33 :: x34 :: x35 :: x36 :: x37 :: some d :: env) s2) (fun c fs s => XX c fs (x0 :: x1 :: x2 :: x3 :: x4 :: x5 :: x6 :: x7 :: x8 :: x9 :: x10 :: x11 :: x12 :: x13 :: x14 :: x15 :: x16 :: x17 :: x18 :: x19 :: x20 :: x21 :: x22 :: x23 :: x24 :: x25 :: x26 :: x27 :: x28 :: x29 :: x30 :: x31 :: x32 :: x33 :: x34 :: x35 :: x36 :: x37 :: y :: env) s)) := congrArg rho (wS_asg38)
theorem wE_loc39 {x0 x1 x2 x3 x4 x5 x6 x7 x8 x9 x10 x11 x12 x13 x14 x15 x16 x17 x18 x19 x20 x21 x22 x23 x24 x25 x26 x27 x28 x29 x30 x31 x32 x33 x34 x35 x36 x37 x38 : Option D} : wE P go (.loc 39) (x0 :: x1 :: x2 :: x3 :: x4 :: x5 :: x6 :: x7 :: x8 :: x9 :: x10 :: x11 :: x12 :: x13 :: x14 :: x15 :: x16 :: x17 :: x18 :: x19 :: x20 :: x21 :: x22 :: x23 :: x24 :: x25 :: x26 :: x27 :: x28 :: x29 :: x30 :: x31 :: x32 :: x33 :: x34 :: x35 :: x36 :: x37 :: x38 :: some d :: env) st Q X = Q (.v d) st := rfl
@[simp ↓] theorem wE_loc39_r {x0 x1 x2 x3 x4 x5 x6 x7 x8 x9 x10 x11 x12 x13 x14 x15 x16 x17 x18 x19 x20 x21 x22 x23 x24 x25 x26 x27 x28 x29 x30 x31 x32 x33 x34 x35 x36 x37 x38 : Option D} : rho (wE P go (.loc 39) (x0 :: x1 :: x2 :: x3 :: x4 :: x5 :: x6 :: x7 :: x8 :: x9 :: x10 :: x11 :: x12 :: x13 :: x14 :: x15 :: x16 :: x17 :: x18 :: x19 :: x20 :: x21 :: x22 :: x23 :: x24 :: x25 :: x26 :: x27 :: x28 :: x29 :: x30 :: x31 :: x32 :: x33 :: x34 :: x35 :: x36 :: x37 :: x38 :: some d :: env) st Q X) = rho (Q (.v d) st) := congrArg rho (wE_loc39)
theorem wS_asg39 {x0 x1 x2 x3 x4 x5 x6 x7 x8 x9 x10 x11 x12 x13 x14 x15 x16 x17 x18 x19 x20 x21 x22 x23 x24 x25 x26 x27 x28 x29 x30 x31 x32 x33 x34 x35 x36 x37 x38 : Option D} {y : Option D} : wS P go (.asg 39 e) (x0 :: x1 :: x2 :: x3 :: x4 :: x5 :: x6 :: x7 :: x8 :: x9 :: x10 :: x11 :: x12 :: x13 :: x14 :: x15 :: x16 :: x17 :: x18 :: x19 :: x20 :: x21 :: x22 :: x23 :: x24 :: x25 :: x26 :: x27 :: x28 :: x29 :: x30 :: x31 :: x32 :: x33 :: x34 :: x35 :: x36 :: x37 :: x38 :: y :: env) st N T XX = wE P go e (x0 :: x1 :: x2 :: x3 :: x4 :: x5 :: x6 :: x7 :: x8 :: x9 :: x10 :: x11 :: x12 :: x13 :: x14 :: x15 :: x16 :: x17 :: x18 :: x19 :: x20 :: x21 :: x22 :: x23 :: x24 :: x25 :: x26 :: x27 :: x28 :: x29 :: x30 :: x31 :: x32 :: x33 :: x34 :: x35 :: x36 :: x37 :: x38 :: y :: env) st (fun v s => wM v s fun d s2 => N (x0 :: x1 :: x2 :: x3 :: x4 :: x5 :: x6 :: x7 :: x8 :: x9 :: x10 :: x11 :: x12 :: x13 :: x14 :: x15 :: x16 :: x17 :: x18 :: x19 :: x20 :: x21 :: x22 :: x23 :: x24 :: x25 :: x26 :: x27 :: x28 :: x29 :: x30 :: x31 :: x32 :: x33 :: x34 :: x35 :: x36 :: x37 :: x38 :: some d :: env) s2) (fun c fs s => XX c fs (x0 :: x1 :: x2 :: x3 :: x4 :: x5 :: x6 :: x7 :: x8 :: x9 :: x10 :: x11 :: x12 :: x13 :: x14 :: x15 :: x16 :: x17 :: x18 :: x19 :: x20 :: x21 :: x22 :: x23 :: x24 :: x25 :: x26 :: x27 :: x28 :: x29 :: x30 :: x31 :: x32 :: x33 :: x34 :: x35 :: x36 :: x37 :: x38 :: y :: env) s) := by
  unfold wS wE; conv => lhs; unfold exS
  rw [OX_out]; rfl
@[simp ↓] theorem wS_asg39_r {x0 x1 x2 x3 x4 x5 x6 x7 x8 x9 x10 x11 x12 x13 x14 x15 x16 x17 x18 x19 x20 x21 x22 x23 x24 x25 x26 x27 x28 x29 x30 x31 x32 x33 x34 x35 x36 x37 x38 : Option D} {y : Option D} : rho (wS P go (.asg 39 e) (x0 :: x1 :: x2 :: x3 :: x4 :: x5 :: x6 :: x7 :: x8 :: x9 :: x10 :: x11 :: x12 :: x13 :: x14 :: x15 :: x16 :: x17 :: x18 :: x19 :: x20 :: x21 :: x22 :: x23 :: x24 :: x25 :: x26 :: x27 :: x28 :: x29 :: x30 :: x31 :: x32 :: x33 :: x34 :: x35 :: x36 :: x37 :: x38 :: y :: env) st N T XX) = rho (wE P go e (x0 :: x1 :: x2 :: x3 :: x4 :: x5 :: x6 :: x7 :: x8 :: x9 :: x10 :: x11 :: x12 :: x13 :: x14 :: x15 :: x16 :: x17 :: x18 :: x19 :: x20 :: x21 :: x22 :: x23 :: x24 :: x25 :: x26 :: x27 :: x28 :: x29 :: x30 :: x31 :: x32 :: x33 :: x34 :: x35 :: x36 :: x37 :: x38 :: y :: env) st (fun v s => wM v s fun d s2 => N (x0 :: x1 :: x2 :: x3 :: x4 :: x5 :: x6 :: x7 :: x8 :: x9 :: x10 :: x11 :: x12 :: x13 :: x14 :: x15 :: x16 :: x17 :: x18 :: x19 :: x20 :: x21 :: x22 :: x23 :: x24 :: x25 :: x26 :: x27 :: x28 :: x29 :: x30 :: x31 :: x32 :: x33 :: x34 :: x35 :: x36 :: x37 :: x38 :: some d :: env) s2) (fun c fs s => XX c fs (x0 :: x1 :: x2 :: x3 :: x4 :: x5 :: x6 :: x7 :: x8 :: x9 :: x10 :: x11 :: x12 :: x13 :: x14 :: x15 :: x16 :: x17 :: x18 :: x19 :: x20 :: x21 :: x22 :: x23 :: x24 :: x25 :: x26 :: x27 :: x28 :: x29 :: x30 :: x31 :: x32 :: x33 :: x34 :: x35 :: x36 :: x37 :: x38 :: y :: env) s)) := congrArg rho (wS_asg39)
theorem wGet_0 {Q : List D → Prop} : wGet (.lst ds :: s) 0 Q = Q ds := rfl
@[simp ↓] theorem wGet_0_r {Q : List D → Prop} : rho (wGet (.lst ds :: s) 0 Q) = rho (Q ds) := congrArg rho (wGet_0)
theorem wCl_0 {c : Cell} {Q : Cell → Prop} : wCl (c :: s) 0 Q = Q c := rfl
@[simp ↓] theorem wCl_0_r {c : Cell} {Q : Cell → Prop} : rho (wCl (c :: s) 0 Q) = rho (Q c) := congrArg rho (wCl_0)
theorem wDic_0 {b : Bool} {kvs : List (L2.Key × D)} {Q : Bool → List (L2.Key × D) → Prop} : wDic (.dic b kvs :: s) 0 Q = Q b kvs := rfl
@[simp ↓] theorem wDic_0_r {b : Bool} {kvs : List (L2.Key × D)} {Q : Bool → List (L2.Key × D) → Prop} : rho (wDic (.dic b kvs :: s) 0 Q) = rho (Q b kvs) := congrArg rho (wDic_0)
theorem wIns_0 {fs : List (Str × D)} {k : Str} {Q : Str → List (Str × D) → Prop} : wIns (.ins k fs :: s) 0 Q = Q k fs := rfl
@[simp ↓] theorem wIns_0_r {fs : List (Str × D)} {k : Str} {Q : Str → List (Str × D) → Prop} : rho (wIns (.ins k fs :: s) 0 Q) = rho (Q k fs) := congrArg rho (wIns_0)
theorem wGet_1 {x0 : Cell} {Q : List D → Prop} : wGet (x0 :: .lst ds :: s) 1 Q = Q ds := rfl
@[simp ↓] theorem wGet_1_r {x0 : Cell} {Q : List D → Prop} : rho (wGet (x0 :: .lst ds :: s) 1 Q) = rho (Q ds) := congrArg rho (wGet_1)
theorem wCl_1 {x0 : Cell} {c : Cell} {Q : Cell → Prop} : wCl (x0 :: c :: s) 1 Q = Q c := rfl
@[simp ↓] theorem wCl_1_r {x0 : Cell} {c : Cell} {Q : Cell → Prop} : rho (wCl (x0 :: c :: s) 1 Q) = rho (Q c) := congrArg rho (wCl_1)
theorem wDic_1 {x0 : Cell} {b : Bool} {kvs : List (L2.Key × D)} {Q : Bool → List (L2.Key × D) → Prop} : wDic (x0 :: .dic b kvs :: s) 1 Q = Q b kvs := rfl
@[simp ↓] theorem wDic_1_r {x0 : Cell} {b : Bool} {kvs : List (L2.Key × D)} {Q : Bool → List (L2.Key × D) → Prop} : rho (wDic (x0 :: .dic b kvs :: s) 1 Q) = rho (Q b kvs) := congrArg rho (wDic_1)
theorem wIns_1 {x0 : Cell} {fs : List (Str × D)} {k : Str} {Q : Str → List (Str × D) → Prop} : wIns (x0 :: .ins k fs :: s) 1 Q = Q k fs := rfl
@[simp ↓] theorem wIns_1_r {x0 : Cell} {fs : List (Str × D)} {k : Str} {Q : Str → List (Str × D) → Prop} : rho (wIns (x0 :: .ins k fs :: s) 1 Q) = rho (Q k fs) := congrArg rho (wIns_1)
theorem wGet_2 {x0 x1 : Cell} {Q : List D → Prop} : wGet (x0 :: x1 :: .lst ds :: s) 2 Q = Q ds := rfl
@[simp ↓] theorem wGet_2_r {x0 x1 : Cell} {Q : List D → Prop} : rho (wGet (x0 :: x1 :: .lst ds :: s) 2 Q) = rho (Q ds) := congrArg rho (wGet_2)
theorem wCl_2 {x0 x1 : Cell} {c : Cell} {Q : Cell → Prop} : wCl (x0 :: x1 :: c :: s) 2 Q = Q c := rfl
@[simp ↓] theorem wCl_2_r {x0 x1 : Cell} {c : Cell} {Q : Cell → Prop} : rho (wCl (x0 :: x1 :: c :: s) 2 Q) = rho (Q c) := congrArg rho (wCl_2)
theorem wDic_2 {x0 x1 : Cell} {b : Bool} {kvs : List (L2.Key × D)} {Q : Bool → List (L2.Key × D) → Prop} : wDic (x0 :: x1 :: .dic b kvs :: s) 2 Q = Q b kvs := rfl
@[simp ↓] theorem wDic_2_r {x0 x1 : Cell} {b : Bool} {kvs : List (L2.Key × D)} {Q : Bool → List (L2.Key × D) → Prop} : rho (wDic (x0 :: x1 :: .dic b kvs :: s) 2 Q) = rho (Q b kvs) := congrArg rho (wDic_2)
theorem wIns_2 {x0 x1 : Cell} {fs : List (Str × D)} {k : Str} {Q : Str → List (Str × D) → Prop} : wIns (x0 :: x1 :: .ins k fs :: s) 2 Q = Q k fs := rfl
@[simp ↓] theorem wIns_2_r {x0 x1 : Cell} {fs : List (Str × D)} {k : Str} {Q : Str → List (Str × D) → Prop} : rho (wIns (x0 :: x1 :: .ins k fs :: s) 2 Q) = rho (Q k fs) := congrArg rho (wIns_2)
theorem wGet_3 {x0 x1 x2 : Cell} {Q : List D → Prop} : wGet (x0 :: x1 :: x2 :: .lst ds :: s) 3 Q = Q ds := rfl
@[simp ↓] theorem wGet_3_r {x0 x1 x2 : Cell} {Q : List D → Prop} : rho (wGet (x0 :: x1 :: x2 :: .lst ds :: s) 3 Q) = rho (Q ds) := congrArg rho (wGet_3)
theorem wCl_3 {x0 x1 x2 : Cell} {c : Cell} {Q : Cell → Prop} : wCl (x0 :: x1 :: x2 :: c :: s) 3 Q = Q c := rfl
@[simp ↓] theorem wCl_3_r {x0 x1 x2 : Cell} {c : Cell} {Q : Cell → Prop} : rho (wCl (x0 :: x1 :: x2 :: c :: s) 3 Q) = rho (Q c) := congrArg rho (wCl_3)
theorem wDic_3 {x0 x1 x2 : Cell} {b : Bool} {kvs : List (L2.Key × D)} {Q : Bool → List (L2.Key × D) → Prop} : wDic (x0 :: x1 :: x2 :: .dic b kvs :: s) 3 Q = Q b kvs := rfl
@[simp ↓] theorem wDic_3_r {x0 x1 x2 : Cell} {b : Bool} {kvs : List (L2.Key × D)} {Q : Bool → List (L2.Key × D) → Prop} : rho (wDic (x0 :: x1 :: x2 :: .dic b kvs :: s) 3 Q) = rho (Q b kvs) := congrArg rho (wDic_3)
theorem wIns_3 {x0 x1 x2 : Cell} {fs : List (Str × D)} {k : Str} {Q : Str → List (Str × D) → Prop} : wIns (x0 :: x1 :: x2 :: .ins k fs :: s) 3 Q = Q k fs := rfl
@[simp ↓] theorem wIns_3_r {x0 x1 x2 : Cell} {fs : List (Str × D)} {k : Str} {Q : Str → List (Str × D) → Prop} : rho (wIns (x0 :: x1 :: x2 :: .ins k fs :: s) 3 Q) = rho (Q k fs) := congrArg rho (wIns_3)
theorem wGet_4 {x0 x1 x2 x3 : Cell} {Q : List D → Prop} : wGet (x0 :: x1 :: x2 :: x3 :: .lst ds :: s) 4 Q = Q ds := rfl
@[simp ↓] theorem wGet_4_r {x0 x1 x2 x3 : Cell} {Q : List D → Prop} : rho (wGet (x0 :: x1 :: x2 :: x3 :: .lst ds :: s) 4 Q) = rho (Q ds) := congrArg rho (wGet_4)
theorem wCl_4 {x0 x1 x2 x3 : Cell} {c : Cell} {Q : Cell → Prop} : wCl (x0 :: x1 :: x2 :: x3 :: c :: s) 4 Q = Q c := rfl
@[simp ↓] theorem wCl_4_r {x0 x1 x2 x3 : Cell} {c : Cell} {Q : Cell → Prop} : rho (wCl (x0 :: x1 :: x2 :: x3 :: c :: s) 4 Q) = rho (Q c) := congrArg rho (wCl_4)
theorem wDic_4 {x0 x1 x2 x3 : Cell} {b : Bool} {kvs : List (L2.Key × D)} {Q : Bool → List (L2.Key × D) → Prop} : wDic (x0 :: x1 :: x2 :: x3 :: .dic b kvs :: s) 4 Q = Q b kvs := rfl
@[simp ↓] theorem wDic_4_r {x0 x1 x2 x3 : Cell} {b : Bool} {kvs : List (L2.Key × D)} {Q : Bool → List (L2.Key × D) → Prop} : rho (wDic (x0 :: x1 :: x2 :: x3 :: .dic b kvs :: s) 4 Q) = rho (Q b kvs) := congrArg rho (wDic_4)
theorem wIns_4 {x0 x1 x2 x3 : Cell} {fs : List (Str × D)} {k : Str} {Q : Str → List (Str × D) → Prop} : wIns (x0 :: x1 :: x2 :: x3 :: .ins k fs :: s) 4 Q = Q k fs := rfl
@[simp ↓] theorem wIns_4_r {x0 x1 x2 x3 : Cell} {fs : List (Str × D)} {k : Str} {Q : Str → List (Str × D) → Prop} : rho (wIns (x0 :: x1 :: x2 :: x3 :: .ins k fs :: s) 4 Q) = rho (Q k fs) := congrArg rho (wIns_4)
theorem wGet_5 {x0 x1 x2 x3 x4 : Cell} {Q : List D → Prop} : wGet (x0 :: x1 :: x2 :: x3 :: x4 :: .lst ds :: s) 5 Q = Q ds := rfl
@[simp ↓] theorem wGet_5_r {x0 x1 x2 x3 x4 : Cell} {Q : List D → Prop} : rho (wGet (x0 :: x1 :: x2 :: x3 :: x4 :: .lst ds :: s) 5 Q) = rho (Q ds) := congrArg rho (wGet_5)
theorem wCl_5 {x0 x1 x2 x3 x4 : Cell} {c : Cell} {Q : Cell → Prop} : wCl (x0 :: x1 :: x2 :: x3 :: x4 :: c :: s) 5 Q = Q c := rfl
@[simp ↓] theorem wCl_5_r {x0 x1 x2 x3 x4 : Cell} {c : Cell} {Q : Cell → Prop} : rho (wCl (x0 :: x1 :: x2 :: x3 :: x4 :: c :: s) 5 Q) = rho (Q c) := congrArg rho (wCl_5)
theorem wDic_5 {x0 x1 x2 x3 x4 : Cell} {b : Bool} {kvs : List (L2.Key × D)} {Q : Bool → List (L2.Key × D) → Prop} : wDic (x0 :: x1 :: x2 :: x3 :: x4 :: .dic b kvs :: s) 5 Q = Q b kvs := rfl
@[simp ↓] theorem wDic_5_r {x0 x1 x2 x3 x4 : Cell} {b : Bool} {kvs : List (L2.Key × D)} {Q : Bool → List (L2.Key × D) → Prop} : rho (wDic (x0 :: x1 :: x2 :: x3 :: x4 :: .dic b kvs :: s) 5 Q) = rho (Q b kvs) := congrArg rho (wDic_5)
theorem wIns_5 {x0 x1 x2 x3 x4 : Cell} {fs : List (Str × D)} {k : Str} {Q : Str → List (Str × D) → Prop} : wIns (x0 :: x1 :: x2 :: x3 :: x4 :: .ins k fs :: s) 5 Q = Q k fs := rfl
@[simp ↓] theorem wIns_5_r {x0 x1 x2 x3 x4 : Cell} {fs : List (Str × D)} {k : Str} {Q : Str → List (Str × D) → Prop} : rho (wIns (x0 :: x1 :: x2 :: x3 :: x4 :: .ins k fs :: s) 5 Q) = rho (Q k fs) := congrArg rho (wIns_5)
theorem wGet_6 {x0 x1 x2 x3 x4 x5 : Cell} {Q : List D → Prop} : wGet (x0 :: x1 :: x2 :: x3 :: x4 :: x5 :: .lst ds :: s) 6 Q = Q ds := rfl
@[simp ↓] theorem wGet_6_r {x0 x1 x2 x3 x4 x5 : Cell} {Q : List D → Prop} : rho (wGet (x0 :: x1 :: x2 :: x3 :: x4 :: x5 :: .lst ds :: s) 6 Q) = rho (Q ds) := congrArg rho (wGet_6)
theorem wCl_6 {x0 x1 x2 x3 x4 x5 : Cell} {c : Cell} {Q : Cell → Prop} : wCl (x0 :: x1 :: x2 :: x3 :: x4 :: x5 :: c :: s) 6 Q = Q c := rfl
@[simp ↓] theorem wCl_6_r {x0 x1 x2 x3 x4 x5 : Cell} {c : Cell} {Q : Cell → Prop} : rho (wCl (x0 :: x1 :: x2 :: x3 :: x4 :: x5 :: c :: s) 6 Q) = rho (Q c) := congrArg rho (wCl_6)
theorem wDic_6 {x0 x1 x2 x3 x4 x5 : Cell} {b : Bool} {kvs : List (L2.Key × D)} {Q : Bool → List (L2.Key × D) → Prop} : wDic (x0 :: x1 :: x2 :: x3 :: x4 :: x5 :: .dic b kvs :: s) 6 Q = Q b kvs := rfl
@[simp ↓] theorem wDic_6_r {x0 x1 x2 x3 x4 x5 : Cell} {b : Bool} {kvs : List (L2.Key × D)} {Q : Bool → List (L2.Key × D) → Prop} : rho (wDic (x0 :: x1 :: x2 :: x3 :: x4 :: x5 :: .dic b kvs :: s) 6 Q) = rho (Q b kvs) := congrArg rho (wDic_6)
theorem wIns_6 {x0 x1 x2 x3 x4 x5 : Cell} {fs : List (Str × D)} {k : Str} {Q : Str → List (Str × D) → Prop} : wIns (x0 :: x1 :: x2 :: x3 :: x4 :: x5 :: .ins k fs :: s) 6 Q = Q k fs := rfl
@[simp ↓] theorem wIns_6_r {x0 x1 x2 x3 x4 x5 : Cell} {fs : List (Str × D)} {k : Str} {Q : Str → List (Str × D) → Prop} : rho (wIns (x0 :: x1 :: x2 :: x3 :: x4 :: x5 :: .ins k fs :: s) 6 Q) = rho (Q k fs) := congrArg rho (wIns_6)
theorem wGet_app {cs : Store} {k : Nat} {Q : List D → Prop} : wGet (s ++ cs) (s.length + k) Q = wGet cs k Q := by
  unfold wGet
  rw [List.getElem?_append_right (by omega), Nat.add_sub_cancel_left]
@[simp ↓] theorem wGet_app_r {cs : Store} {k : Nat} {Q : List D → Prop} : rho (wGet (s ++ cs) (s.length + k) Q) = rho (wGet cs k Q) := congrArg rho (wGet_app)
theorem wGet_app0 {cs : Store} {Q : List D → Prop} : wGet (s ++ cs) s.length Q = wGet cs 0 Q := wGet_app (k := 0)
@[simp ↓] theorem wGet_app0_r {cs : Store} {Q : List D → Prop} : rho (wGet (s ++ cs) s.length Q) = rho (wGet cs 0 Q) := congrArg rho (wGet_app0)
theorem wCl_app {cs : Store} {k : Nat} {Q : Cell → Prop} : wCl (s ++ cs) (s.length + k) Q = wCl cs k Q := by
  unfold wCl
  rw [List.getElem?_append_right (by omega), Nat.add_sub_cancel_left]
@[simp ↓] theorem wCl_app_r {cs : Store} {k : Nat} {Q : Cell → Prop} : rho (wCl (s ++ cs) (s.length + k) Q) = rho (wCl cs k Q) := congrArg rho (wCl_app)
theorem wCl_app0 {cs : Store} {Q : Cell → Prop} : wCl (s ++ cs) s.length Q = wCl cs 0 Q := wCl_app (k := 0)
@[simp ↓] theorem wCl_app0_r {cs : Store} {Q : Cell → Prop} : rho (wCl (s ++ cs) s.length Q) = rho (wCl cs 0 Q) := congrArg rho (wCl_app0)
theorem wDic_app {cs : Store} {k : Nat} {Q : Bool → List (L2.Key × D) → Prop} : wDic (s ++ cs) (s.length + k) Q = wDic cs k Q := by
  unfold wDic
  rw [List.getElem?_append_right (by omega), Nat.add_sub_cancel_left]
@[simp ↓] theorem wDic_app_r {cs : Store} {k : Nat} {Q : Bool → List (L2.Key × D) → Prop} : rho (wDic (s ++ cs) (s.length + k) Q) = rho (wDic cs k Q) := congrArg rho (wDic_app)
theorem wDic_app0 {cs : Store} {Q : Bool → List (L2.Key × D) → Prop} : wDic (s ++ cs) s.length Q = wDic cs 0 Q := wDic_app (k := 0)
@[simp ↓] theorem wDic_app0_r {cs : Store} {Q : Bool → List (L2.Key × D) → Prop} : rho (wDic (s ++ cs) s.length Q) = rho (wDic cs 0 Q) := congrArg rho (wDic_app0)
theorem wIns_app {cs : Store} {k : Nat} {Q : Str → List (Str × D) → Prop} : wIns (s ++ cs) (s.length + k) Q = wIns cs k Q := by
  unfold wIns
  rw [List.getElem?_append_right (by omega), Nat.add_sub_cancel_left]
@[simp ↓] theorem wIns_app_r {cs : Store} {k : Nat} {Q : Str → List (Str × D) → Prop} : rho (wIns (s ++ cs) (s.length + k) Q) = rho (wIns cs k Q) := congrArg rho (wIns_app)
theorem wIns_app0 {cs : Store} {Q : Str → List (Str × D) → Prop} : wIns (s ++ cs) s.length Q = wIns cs 0 Q := wIns_app (k := 0)

@[simp ↓] theorem wIns_app0_r {cs : Store} {Q : Str → List (Str × D) → Prop} : rho (wIns (s ++ cs) s.length Q) = rho (wIns cs 0 Q) := congrArg rho (wIns_app0)
theorem wB_add {Q : Ev → Prop} : wB .add (.v (.int i)) (.v (.int j)) s Q = Q (.v (.int (i + j))) := rfl
@[simp ↓] theorem wB_add_r {Q : Ev → Prop} : rho (wB .add (.v (.int i)) (.v (.int j)) s Q) = rho (Q (.v (.int (i + j)))) := congrArg rho (wB_add)
theorem wB_addS {x y : Str} {Q : Ev → Prop} (h : x.length + y.length < lim) : wB .add (.v (.str x)) (.v (.str y)) s Q = Q (.v (.str (x ++ y))) := by
  show wOf (if x.length + y.length < lim then _ else _) Q = _
  rw [if_pos h]; rfl
@[simp ↓] theorem wB_addS_r {x y : Str} {Q : Ev → Prop} (h : x.length + y.length < lim) : rho (wB .add (.v (.str x)) (.v (.str y)) s Q) = rho (Q (.v (.str (x ++ y)))) := congrArg rho (wB_addS h)
theorem wB_addT {ds2 : List D} {Q : Ev → Prop} : wB .add (.v (.tup ds)) (.v (.tup ds2)) s Q = (ds.length + ds2.length < lim ∧ Q (.v (.tup (ds ++ ds2)))) := by
  show wOf (if ds.length + ds2.length < lim then some (Ev.v (.tup (ds ++ ds2))) else none) Q = _
  by_cases h : ds.length + ds2.length < lim
  · rw [if_pos h]; simp only [h, true_and]; rfl
  · rw [if_neg h]; simp only [h, false_and]; rfl
@[simp ↓] theorem wB_addT_r {ds2 : List D} {Q : Ev → Prop} : rho (wB .add (.v (.tup ds)) (.v (.tup ds2)) s Q) = rho ((ds.length + ds2.length < lim ∧ Q (.v (.tup (ds ++ ds2))))) := congrArg rho (wB_addT)
def wLw (s : Store) (x : Ev) (Q : List D → Prop) : Prop := wOf (lstW s x) Q
theorem wLw_t {Q : List D → Prop} : wLw s (.t ds) Q = Q ds := rfl
@[simp ↓] theorem wLw_t_r {Q : List D → Prop} : rho (wLw s (.t ds) Q) = rho (Q ds) := congrArg rho (wLw_t)
theorem wLw_ref {Q : List D → Prop} : wLw s (.v (.ref n)) Q = wGet s n Q := by
  show wOf (match s[n]? with | some (.lst ds) => some ds | _ => none : Option (List D)) Q = (match s[n]? with | some (.lst ds) => _ | _ => _)
  cases s[n]? with
  | none => rfl
  | some cc => cases cc <;> rfl
@[simp ↓] theorem wLw_ref_r {Q : List D → Prop} : rho (wLw s (.v (.ref n)) Q) = rho (wGet s n Q) := congrArg rho (wLw_ref)
theorem catD_eq {x y : Ev} {Q : Ev → Prop} : wOf (catD x y s) Q = wLw s x fun xs => wLw s y fun ys => xs.length + ys.length < lim ∧ Q (.t (xs ++ ys)) := by
  unfold catD wLw
  cases lstW s x with
  | none => rfl
  | some xs => cases lstW s y with
    | none => rfl
    | some ys =>
      simp only [wOf]
      by_cases h : xs.length + ys.length < lim
      · simp only [h, if_true, true_and]
      · simp only [h, if_false, false_and]
theorem wB_cat_rr {m : Nat} {Q : Ev → Prop} : wB .add (.v (.ref n)) (.v (.ref m)) s Q = wLw s (.v (.ref n)) fun xs => wLw s (.v (.ref m)) fun ys => xs.length + ys.length < lim ∧ Q (.t (xs ++ ys)) := catD_eq
@[simp ↓] theorem wB_cat_rr_r {m : Nat} {Q : Ev → Prop} : rho (wB .add (.v (.ref n)) (.v (.ref m)) s Q) = rho (wLw s (.v (.ref n)) fun xs => wLw s (.v (.ref m)) fun ys => xs.length + ys.length < lim ∧ Q (.t (xs ++ ys))) := congrArg rho (wB_cat_rr)
theorem wB_cat_rt {Q : Ev → Prop} : wB .add (.v (.ref n)) (.t ds) s Q = wLw s (.v (.ref n)) fun xs => wLw s (.t ds) fun ys => xs.length + ys.length < lim ∧ Q (.t (xs ++ ys)) := catD_eq
@[simp ↓] theorem wB_cat_rt_r {Q : Ev → Prop} : rho (wB .add (.v (.ref n)) (.t ds) s Q) = rho (wLw s (.v (.ref n)) fun xs => wLw s (.t ds) fun ys => xs.length + ys.length < lim ∧ Q (.t (xs ++ ys))) := congrArg rho (wB_cat_rt)
theorem wB_cat_tr {Q : Ev → Prop} : wB .add (.t ds) (.v (.ref n)) s Q = wLw s (.t ds) fun xs => wLw s (.v (.ref n)) fun ys => xs.length + ys.length < lim ∧ Q (.t (xs ++ ys)) := catD_eq
@[simp ↓] theorem wB_cat_tr_r {Q : Ev → Prop} : rho (wB .add (.t ds) (.v (.ref n)) s Q) = rho (wLw s (.t ds) fun xs => wLw s (.v (.ref n)) fun ys => xs.length + ys.length < lim ∧ Q (.t (xs ++ ys))) := congrArg rho (wB_cat_tr)
theorem wB_cat_tt {ds2 : List D} {Q : Ev → Prop} : wB .add (.t ds) (.t ds2) s Q = wLw s (.t ds) fun xs => wLw s (.t ds2) fun ys => xs.length + ys.length < lim ∧ Q (.t (xs ++ ys)) := by
  show wOf (catD (.t ds) (.t ds2) s) Q = _
  rw [catD_eq]
@[simp ↓] theorem wB_cat_tt_r {ds2 : List D} {Q : Ev → Prop} : rho (wB .add (.t ds) (.t ds2) s Q) = rho (wLw s (.t ds) fun xs => wLw s (.t ds2) fun ys => xs.length + ys.length < lim ∧ Q (.t (xs ++ ys))) := congrArg rho (wB_cat_tt)
theorem wB_sub {Q : Ev → Prop} : wB .sub (.v (.int i)) (.v (.int j)) s Q = Q (.v (.int (i - j))) := rfl
@[simp ↓] theorem wB_sub_r {Q : Ev → Prop} : rho (wB .sub (.v (.int i)) (.v (.int j)) s Q) = rho (Q (.v (.int (i - j)))) := congrArg rho (wB_sub)
theorem small_iff : small i = true ↔ (-18446744073709551616 < i ∧ i < 18446744073709551616) := by
  unfold small
  rw [Bool.and_eq_true_iff, decide_eq_true_iff, decide_eq_true_iff]
  exact Iff.rfl
theorem wB_mulL {Q : Ev → Prop} (h : -18446744073709551616 < i ∧ i < 18446744073709551616) : wB .mul (.v (.int i)) (.v (.int j)) s Q = Q (.v (.int (i * j))) := by
  show wOf (if ((small i || small j) || _) = true then _ else _) Q = _
  rw [small_iff.mpr h, Bool.true_or, Bool.true_or]; rfl
@[simp ↓] theorem wB_mulL_r {Q : Ev → Prop} (h : -18446744073709551616 < i ∧ i < 18446744073709551616) : rho (wB .mul (.v (.int i)) (.v (.int j)) s Q) = rho (Q (.v (.int (i * j)))) := congrArg rho (wB_mulL h)
theorem wB_mulR {Q : Ev → Prop} (h : -18446744073709551616 < j ∧ j < 18446744073709551616) : wB .mul (.v (.int i)) (.v (.int j)) s Q = Q (.v (.int (i * j))) := by
  show wOf (if ((small i || small j) || _) = true then _ else _) Q = _
  rw [small_iff.mpr h, Bool.or_true, Bool.true_or]; rfl
@[simp ↓] theorem wB_mulR_r {Q : Ev → Prop} (h : -18446744073709551616 < j ∧ j < 18446744073709551616) : rho (wB .mul (.v (.int i)) (.v (.int j)) s Q) = rho (Q (.v (.int (i * j)))) := congrArg rho (wB_mulR h)
theorem big_le : (10 : Nat) ^ 300 < 2 ^ 1000 := by decide +kernel
theorem big_iff (h : -10 ^ 250 < i ∧ i < 10 ^ 250) : bigOk i = true := by
  unfold bigOk
  rw [decide_eq_true_iff]
  refine Nat.lt_trans ?_ big_le
  omega
theorem wB_mulB {Q : Ev → Prop} (h : (-10 ^ 250 < i ∧ i < 10 ^ 250) ∧ (-10 ^ 250 < j ∧ j < 10 ^ 250)) : wB .mul (.v (.int i)) (.v (.int j)) s Q = Q (.v (.int (i * j))) := by
  show wOf (if (_ || (bigOk i && bigOk j)) = true then _ else _) Q = _
  rw [big_iff h.1, big_iff h.2, Bool.and_true, Bool.or_true]; rfl
@[simp ↓] theorem wB_mulB_r {Q : Ev → Prop} (h : (-10 ^ 250 < i ∧ i < 10 ^ 250) ∧ (-10 ^ 250 < j ∧ j < 10 ^ 250)) : rho (wB .mul (.v (.int i)) (.v (.int j)) s Q) = rho (Q (.v (.int (i * j)))) := congrArg rho (wB_mulB h)
theorem wB_fdiv {Q : Ev → Prop} (h : 0 < j ∧ j < 1073741824) : wB .fdiv (.v (.int i)) (.v (.int j)) s Q = Q (.v (.int (i / j))) := by
  show wOf (if 0 < j ∧ bigOk j = true then _ else _) Q = _
  have e : bigOk j = true := big_iff ⟨by have := h.1; omega, by have := h.2; omega⟩
  rw [if_pos ⟨h.1, e⟩]; rfl
@[simp ↓] theorem wB_fdiv_r {Q : Ev → Prop} (h : 0 < j ∧ j < 1073741824) : rho (wB .fdiv (.v (.int i)) (.v (.int j)) s Q) = rho (Q (.v (.int (i / j)))) := congrArg rho (wB_fdiv h)
theorem wB_fdivB {Q : Ev → Prop} (h : 0 < j ∧ j < 10 ^ 250) : wB .fdiv (.v (.int i)) (.v (.int j)) s Q = Q (.v (.int (i / j))) := by
  show wOf (if 0 < j ∧ bigOk j = true then _ else _) Q = _
  have e : bigOk j = true := big_iff ⟨by have := h.1; omega, h.2⟩
  rw [if_pos ⟨h.1, e⟩]; rfl
@[simp ↓] theorem wB_fdivB_r {Q : Ev → Prop} (h : 0 < j ∧ j < 10 ^ 250) : rho (wB .fdiv (.v (.int i)) (.v (.int j)) s Q) = rho (Q (.v (.int (i / j)))) := congrArg rho (wB_fdivB h)
theorem wB_mod {Q : Ev → Prop} (h : 0 < j) : wB .mod (.v (.int i)) (.v (.int j)) s Q = Q (.v (.int (i % j))) := by
  show wOf (if 0 < j then _ else _) Q = _
  rw [if_pos h]; rfl
@[simp ↓] theorem wB_mod_r {Q : Ev → Prop} (h : 0 < j) : rho (wB .mod (.v (.int i)) (.v (.int j)) s Q) = rho (Q (.v (.int (i % j)))) := congrArg rho (wB_mod h)
theorem wB_pow {Q : Ev → Prop} (h : (0 ≤ j ∧ j ≤ 1000000) ∧ i.natAbs < 18446744073709551616) : wB .pow (.v (.int i)) (.v (.int j)) s Q = Q (.v (.int (i ^ j.toNat))) := by
  show wOf (if 0 ≤ j ∧ j ≤ 1000000 ∧ i.natAbs < 2 ^ 64 then _ else _) Q = _
  rw [if_pos ⟨h.1.1, h.1.2, h.2⟩]; rfl
@[simp ↓] theorem wB_pow_r {Q : Ev → Prop} (h : (0 ≤ j ∧ j ≤ 1000000) ∧ i.natAbs < 18446744073709551616) : rho (wB .pow (.v (.int i)) (.v (.int j)) s Q) = rho (Q (.v (.int (i ^ j.toNat)))) := congrArg rho (wB_pow h)
theorem wB_shr {Q : Ev → Prop} (h : 0 ≤ j) : wB .shr (.v (.int i)) (.v (.int j)) s Q = Q (.v (.int (i / 2 ^ j.toNat))) := by
  show wOf (if 0 ≤ j then _ else _) Q = _
  rw [if_pos h]; rfl

@[simp ↓] theorem wB_shr_r {Q : Ev → Prop} (h : 0 ≤ j) : rho (wB .shr (.v (.int i)) (.v (.int j)) s Q) = rho (Q (.v (.int (i / 2 ^ j.toNat)))) := congrArg rho (wB_shr h)
theorem wC_lt {Q : Bool → Prop} : wC .lt (.v (.int i)) (.v (.int j)) s Q = Q (decide (i < j)) := rfl
@[simp ↓] theorem wC_lt_r {Q : Bool → Prop} : rho (wC .lt (.v (.int i)) (.v (.int j)) s Q) = rho (Q (decide (i < j))) := congrArg rho (wC_lt)
theorem wC_le {Q : Bool → Prop} : wC .le (.v (.int i)) (.v (.int j)) s Q = Q (decide (i ≤ j)) := rfl
@[simp ↓] theorem wC_le_r {Q : Bool → Prop} : rho (wC .le (.v (.int i)) (.v (.int j)) s Q) = rho (Q (decide (i ≤ j))) := congrArg rho (wC_le)
theorem wC_gt {Q : Bool → Prop} : wC .gt (.v (.int i)) (.v (.int j)) s Q = Q (decide (j < i)) := rfl
@[simp ↓] theorem wC_gt_r {Q : Bool → Prop} : rho (wC .gt (.v (.int i)) (.v (.int j)) s Q) = rho (Q (decide (j < i))) := congrArg rho (wC_gt)
theorem wC_ge {Q : Bool → Prop} : wC .ge (.v (.int i)) (.v (.int j)) s Q = Q (decide (j ≤ i)) := rfl
@[simp ↓] theorem wC_ge_r {Q : Bool → Prop} : rho (wC .ge (.v (.int i)) (.v (.int j)) s Q) = rho (Q (decide (j ≤ i))) := congrArg rho (wC_ge)
theorem wC_eq {Q : Bool → Prop} : wC .eq (.v (.int i)) (.v (.int j)) s Q = Q (decide (i = j)) := rfl
@[simp ↓] theorem wC_eq_r {Q : Bool → Prop} : rho (wC .eq (.v (.int i)) (.v (.int j)) s Q) = rho (Q (decide (i = j))) := congrArg rho (wC_eq)
theorem wC_ne {Q : Bool → Prop} : wC .ne (.v (.int i)) (.v (.int j)) s Q = Q (!decide (i = j)) := rfl
@[simp ↓] theorem wC_ne_r {Q : Bool → Prop} : rho (wC .ne (.v (.int i)) (.v (.int j)) s Q) = rho (Q (!decide (i = j))) := congrArg rho (wC_ne)
theorem wC_eq_bl {x y : Bool} {Q : Bool → Prop} : wC .eq (.v (.bl x)) (.v (.bl y)) s Q = Q (decide (x = y)) := rfl
@[simp ↓] theorem wC_eq_bl_r {x y : Bool} {Q : Bool → Prop} : rho (wC .eq (.v (.bl x)) (.v (.bl y)) s Q) = rho (Q (decide (x = y))) := congrArg rho (wC_eq_bl)
theorem wC_ne_bl {x y : Bool} {Q : Bool → Prop} : wC .ne (.v (.bl x)) (.v (.bl y)) s Q = Q (!decide (x = y)) := rfl
@[simp ↓] theorem wC_ne_bl_r {x y : Bool} {Q : Bool → Prop} : rho (wC .ne (.v (.bl x)) (.v (.bl y)) s Q) = rho (Q (!decide (x = y))) := congrArg rho (wC_ne_bl)
theorem wC_eq_str {x y : Str} {Q : Bool → Prop} : wC .eq (.v (.str x)) (.v (.str y)) s Q = Q (decide (x = y)) := rfl
@[simp ↓] theorem wC_eq_str_r {x y : Str} {Q : Bool → Prop} : rho (wC .eq (.v (.str x)) (.v (.str y)) s Q) = rho (Q (decide (x = y))) := congrArg rho (wC_eq_str)
theorem wC_ne_str {x y : Str} {Q : Bool → Prop} : wC .ne (.v (.str x)) (.v (.str y)) s Q = Q (!decide (x = y)) := rfl
@[simp ↓] theorem wC_ne_str_r {x y : Str} {Q : Bool → Prop} : rho (wC .ne (.v (.str x)) (.v (.str y)) s Q) = rho (Q (!decide (x = y))) := congrArg rho (wC_ne_str)
theorem wC_eqT1 {x0 y0 : Int} {Q : Bool → Prop} : wC .eq (.v (.tup [.int x0])) (.v (.tup [.int y0])) s Q = Q ((x0 == y0) && (true)) := rfl
@[simp ↓] theorem wC_eqT1_r {x0 y0 : Int} {Q : Bool → Prop} : rho (wC .eq (.v (.tup [.int x0])) (.v (.tup [.int y0])) s Q) = rho (Q ((x0 == y0) && (true))) := congrArg rho (wC_eqT1)
theorem wC_neT1 {x0 y0 : Int} {Q : Bool → Prop} : wC .ne (.v (.tup [.int x0])) (.v (.tup [.int y0])) s Q = Q (!((x0 == y0) && (true))) := rfl
@[simp ↓] theorem wC_neT1_r {x0 y0 : Int} {Q : Bool → Prop} : rho (wC .ne (.v (.tup [.int x0])) (.v (.tup [.int y0])) s Q) = rho (Q (!((x0 == y0) && (true)))) := congrArg rho (wC_neT1)
theorem wC_eqT2 {x0 x1 y0 y1 : Int} {Q : Bool → Prop} : wC .eq (.v (.tup [.int x0, .int x1])) (.v (.tup [.int y0, .int y1])) s Q = Q ((x0 == y0) && ((x1 == y1) && (true))) := rfl
@[simp ↓] theorem wC_eqT2_r {x0 x1 y0 y1 : Int} {Q : Bool → Prop} : rho (wC .eq (.v (.tup [.int x0, .int x1])) (.v (.tup [.int y0, .int y1])) s Q) = rho (Q ((x0 == y0) && ((x1 == y1) && (true)))) := congrArg rho (wC_eqT2)
theorem wC_neT2 {x0 x1 y0 y1 : Int} {Q : Bool → Prop} : wC .ne (.v (.tup [.int x0, .int x1])) (.v (.tup [.int y0, .int y1])) s Q = Q (!((x0 == y0) && ((x1 == y1) && (true)))) := rfl
@[simp ↓] theorem wC_neT2_r {x0 x1 y0 y1 : Int} {Q : Bool → Prop} : rho (wC .ne (.v (.tup [.int x0, .int x1])) (.v (.tup [.int y0, .int y1])) s Q) = rho (Q (!((x0 == y0) && ((x1 == y1) && (true))))) := congrArg rho (wC_neT2)
theorem wC_eqT3 {x0 x1 x2 y0 y1 y2 : Int} {Q : Bool → Prop} : wC .eq (.v (.tup [.int x0, .int x1, .int x2])) (.v (.tup [.int y0, .int y1, .int y2])) s Q = Q ((x0 == y0) && ((x1 == y1) && ((x2 == y2) && (true)))) := rfl
@[simp ↓] theorem wC_eqT3_r {x0 x1 x2 y0 y1 y2 : Int} {Q : Bool → Prop} : rho (wC .eq (.v (.tup [.int x0, .int x1, .int x2])) (.v (.tup [.int y0, .int y1, .int y2])) s Q) = rho (Q ((x0 == y0) && ((x1 == y1) && ((x2 == y2) && (true))))) := congrArg rho (wC_eqT3)
theorem wC_neT3 {x0 x1 x2 y0 y1 y2 : Int} {Q : Bool → Prop} : wC .ne (.v (.tup [.int x0, .int x1, .int x2])) (.v (.tup [.int y0, .int y1, .int y2])) s Q = Q (!((x0 == y0) && ((x1 == y1) && ((x2 == y2) && (true))))) := rfl
@[simp ↓] theorem wC_neT3_r {x0 x1 x2 y0 y1 y2 : Int} {Q : Bool → Prop} : rho (wC .ne (.v (.tup [.int x0, .int x1, .int x2])) (.v (.tup [.int y0, .int y1, .int y2])) s Q) = rho (Q (!((x0 == y0) && ((x1 == y1) && ((x2 == y2) && (true)))))) := congrArg rho (wC_neT3)
theorem wC_eqT4 {x0 x1 x2 x3 y0 y1 y2 y3 : Int} {Q : Bool → Prop} : wC .eq (.v (.tup [.int x0, .int x1, .int x2, .int x3])) (.v (.tup [.int y0, .int y1, .int y2, .int y3])) s Q = Q ((x0 == y0) && ((x1 == y1) && ((x2 == y2) && ((x3 == y3) && (true))))) := rfl
@[simp ↓] theorem wC_eqT4_r {x0 x1 x2 x3 y0 y1 y2 y3 : Int} {Q : Bool → Prop} : rho (wC .eq (.v (.tup [.int x0, .int x1, .int x2, .int x3])) (.v (.tup [.int y0, .int y1, .int y2, .int y3])) s Q) = rho (Q ((x0 == y0) && ((x1 == y1) && ((x2 == y2) && ((x3 == y3) && (true)))))) := congrArg rho (wC_eqT4)
theorem wC_neT4 {x0 x1 x2 x3 y0 y1 y2 y3 : Int} {Q : Bool → Prop} : wC .ne (.v (.tup [.int x0, .int x1, .int x2, .int x3])) (.v (.tup [.int y0, .int y1, .int y2, .int y3])) s Q = Q (!((x0 == y0) && ((x1 == y1) && ((x2 == y2) && ((x3 == y3) && (true)))))) := rfl
@[simp ↓] theorem wC_neT4_r {x0 x1 x2 x3 y0 y1 y2 y3 : Int} {Q : Bool → Prop} : rho (wC .ne (.v (.tup [.int x0, .int x1, .int x2, .int x3])) (.v (.tup [.int y0, .int y1, .int y2, .int y3])) s Q) = rho (Q (!((x0 == y0) && ((x1 == y1) && ((x2 == y2) && ((x3 == y3) && (true))))))) := congrArg rho (wC_neT4)
theorem wC_eqT5 {x0 x1 x2 x3 x4 y0 y1 y2 y3 y4 : Int} {Q : Bool → Prop} : wC .eq (.v (.tup [.int x0, .int x1, .int x2, .int x3, .int x4])) (.v (.tup [.int y0, .int y1, .int y2, .int y3, .int y4])) s Q = Q ((x0 == y0) && ((x1 == y1) && ((x2 == y2) && ((x3 == y3) && ((x4 == y4) && (true)))))) := rfl
@[simp ↓] theorem wC_eqT5_r {x0 x1 x2 x3 x4 y0 y1 y2 y3 y4 : Int} {Q : Bool → Prop} : rho (wC .eq (.v (.tup [.int x0, .int x1, .int x2, .int x3, .int x4])) (.v (.tup [.int y0, .int y1, .int y2, .int y3, .int y4])) s Q) = rho (Q ((x0 == y0) && ((x1 == y1) && ((x2 == y2) && ((x3 == y3) && ((x4 == y4) && (true))))))) := congrArg rho (wC_eqT5)
theorem wC_neT5 {x0 x1 x2 x3 x4 y0 y1 y2 y3 y4 : Int} {Q : Bool → Prop} : wC .ne (.v (.tup [.int x0, .int x1, .int x2, .int x3, .int x4])) (.v (.tup [.int y0, .int y1, .int y2, .int y3, .int y4])) s Q = Q (!((x0 == y0) && ((x1 == y1) && ((x2 == y2) && ((x3 == y3) && ((x4 == y4) && (true))))))) := rfl
@[simp ↓] theorem wC_neT5_r {x0 x1 x2 x3 x4 y0 y1 y2 y3 y4 : Int} {Q : Bool → Prop} : rho (wC .ne (.v (.tup [.int x0, .int x1, .int x2, .int x3, .int x4])) (.v (.tup [.int y0, .int y1, .int y2, .int y3, .int y4])) s Q) = rho (Q (!((x0 == y0) && ((x1 == y1) && ((x2 == y2) && ((x3 == y3) && ((x4 == y4) && (true)))))))) := congrArg rho (wC_neT5)
theorem wC_ltT1 {x0 y0 : Int} {Q : Bool → Prop} : wC .lt (.v (.tup [.int x0])) (.v (.tup [.int y0])) s Q = Q (ordT (fun i j => decide (i < j)) (fun i j => decide (i < j)) [x0] [y0]) := rfl
@[simp ↓] theorem wC_ltT1_r {x0 y0 : Int} {Q : Bool → Prop} : rho (wC .lt (.v (.tup [.int x0])) (.v (.tup [.int y0])) s Q) = rho (Q (ordT (fun i j => decide (i < j)) (fun i j => decide (i < j)) [x0] [y0])) := congrArg rho (wC_ltT1)
theorem wC_leT1 {x0 y0 : Int} {Q : Bool → Prop} : wC .le (.v (.tup [.int x0])) (.v (.tup [.int y0])) s Q = Q (ordT (fun i j => decide (i ≤ j)) (fun i j => decide (i ≤ j)) [x0] [y0]) := rfl
@[simp ↓] theorem wC_leT1_r {x0 y0 : Int} {Q : Bool → Prop} : rho (wC .le (.v (.tup [.int x0])) (.v (.tup [.int y0])) s Q) = rho (Q (ordT (fun i j => decide (i ≤ j)) (fun i j => decide (i ≤ j)) [x0] [y0])) := congrArg rho (wC_leT1)
theorem wC_gtT1 {x0 y0 : Int} {Q : Bool → Prop} : wC .gt (.v (.tup [.int x0])) (.v (.tup [.int y0])) s Q = Q (ordT (fun i j => decide (j < i)) (fun i j => decide (j < i)) [x0] [y0]) := rfl
@[simp ↓] theorem wC_gtT1_r {x0 y0 : Int} {Q : Bool → Prop} : rho (wC .gt (.v (.tup [.int x0])) (.v (.tup [.int y0])) s Q) = rho (Q (ordT (fun i j => decide (j < i)) (fun i j => decide (j < i)) [x0] [y0])) := congrArg rho (wC_gtT1)
theorem wC_geT1 {x0 y0 : Int} {Q : Bool → Prop} : wC .ge (.v (.tup [.int x0])) (.v (.tup [.int y0])) s Q = Q (ordT (fun i j => decide (j ≤ i)) (fun i j => decide (j ≤ i)) [x0] [y0]) := rfl
@[simp ↓] theorem wC_geT1_r {x0 y0 : Int} {Q : Bool → Prop} : rho (wC .ge (.v (.tup [.int x0])) (.v (.tup [.int y0])) s Q) = rho (Q (ordT (fun i j => decide (j ≤ i)) (fun i j => decide (j ≤ i)) [x0] [y0])) := congrArg rho (wC_geT1)
theorem wC_ltT2 {x0 x1 y0 y1 : Int} {Q : Bool → Prop} : wC .lt (.v (.tup [.int x0, .int x1])) (.v (.tup [.int y0, .int y1])) s Q = Q (ordT (fun i j => decide (i < j)) (fun i j => decide (i < j)) [x0, x1] [y0, y1]) := rfl
@[simp ↓] theorem wC_ltT2_r {x0 x1 y0 y1 : Int} {Q : Bool → Prop} : rho (wC .lt (.v (.tup [.int x0, .int x1])) (.v (.tup [.int y0, .int y1])) s Q) = rho (Q (ordT (fun i j => decide (i < j)) (fun i j => decide (i < j)) [x0, x1] [y0, y1])) := congrArg rho (wC_ltT2)
theorem wC_leT2 {x0 x1 y0 y1 : Int} {Q : Bool → Prop} : wC .le (.v (.tup [.int x0, .int x1])) (.v (.tup [.int y0, .int y1])) s Q = Q (ordT (fun i j => decide (i ≤ j)) (fun i j => decide (i ≤ j)) [x0, x1] [y0, y1]) := rfl
@[simp ↓] theorem wC_leT2_r {x0 x1 y0 y1 : Int} {Q : Bool → Prop} : rho (wC .le (.v (.tup [.int x0, .int x1])) (.v (.tup [.int y0, .int y1])) s Q) = rho (Q (ordT (fun i j => decide (i ≤ j)) (fun i j => decide (i ≤ j)) [x0, x1] [y0, y1])) := congrArg rho (wC_leT2)
theorem wC_gtT2 {x0 x1 y0 y1 : Int} {Q : Bool → Prop} : wC .gt (.v (.tup [.int x0, .int x1])) (.v (.tup [.int y0, .int y1])) s Q = Q (ordT (fun i j => decide (j < i)) (fun i j => decide (j < i)) [x0, x1] [y0, y1]) := rfl
@[simp ↓] theorem wC_gtT2_r {x0 x1 y0 y1 : Int} {Q : Bool → Prop} : rho (wC .gt (.v (.tup [.int x0, .int x1])) (.v (.tup [.int y0, .int y1])) s Q) = rho (Q (ordT (fun i j => decide (j < i)) (fun i j => decide (j < i)) [x0, x1] [y0, y1])) := congrArg rho (wC_gtT2)
theorem wC_geT2 {x0 x1 y0 y1 : Int} {Q : Bool → Prop} : wC .ge (.v (.tup [.int x0, .int x1])) (.v (.tup [.int y0, .int y1])) s Q = Q (ordT (fun i j => decide (j ≤ i)) (fun i j => decide (j ≤ i)) [x0, x1] [y0, y1]) := rfl
@[simp ↓] theorem wC_geT2_r {x0 x1 y0 y1 : Int} {Q : Bool → Prop} : rho (wC .ge (.v (.tup [.int x0, .int x1])) (.v (.tup [.int y0, .int y1])) s Q) = rho (Q (ordT (fun i j => decide (j ≤ i)) (fun i j => decide (j ≤ i)) [x0, x1] [y0, y1])) := congrArg rho (wC_geT2)
theorem wC_ltT3 {x0 x1 x2 y0 y1 y2 : Int} {Q : Bool → Prop} : wC .lt (.v (.tup [.int x0, .int x1, .int x2])) (.v (.tup [.int y0, .int y1, .int y2])) s Q = Q (ordT (fun i j => decide (i < j)) (fun i j => decide (i < j)) [x0, x1, x2] [y0, y1, y2]) := rfl
@[simp ↓] theorem wC_ltT3_r {x0 x1 x2 y0 y1 y2 : Int} {Q : Bool → Prop} : rho (wC .lt (.v (.tup [.int x0, .int x1, .int x2])) (.v (.tup [.int y0, .int y1, .int y2])) s Q) = rho (Q (ordT (fun i j => decide (i < j)) (fun i j => decide (i < j)) [x0, x1, x2] [y0, y1, y2])) := congrArg rho (wC_ltT3)
theorem wC_leT3 {x0 x1 x2 y0 y1 y2 : Int} {Q : Bool → Prop} : wC .le (.v (.tup [.int x0, .int x1, .int x2])) (.v (.tup [.int y0, .int y1, .int y2])) s Q = Q (ordT (fun i j => decide (i ≤ j)) (fun i j => decide (i ≤ j)) [x0, x1, x2] [y0, y1, y2]) := rfl
@[simp ↓] theorem wC_leT3_r {x0 x1 x2 y0 y1 y2 : Int} {Q : Bool → Prop} : rho (wC .le (.v (.tup [.int x0, .int x1, .int x2])) (.v (.tup [.int y0, .int y1, .int y2])) s Q) = rho (Q (ordT (fun i j => decide (i ≤ j)) (fun i j => decide (i ≤ j)) [x0, x1, x2] [y0, y1, y2])) := congrArg rho (wC_leT3)
theorem wC_gtT3 {x0 x1 x2 y0 y1 y2 : Int} {Q : Bool → Prop} : wC .gt (.v (.tup [.int x0, .int x1, .int x2])) (.v (.tup [.int y0, .int y1, .int y2])) s Q = Q (ordT (fun i j => decide (j < i)) (fun i j => decide (j < i)) [x0, x1, x2] [y0, y1, y2]) := rfl
@[simp ↓] theorem wC_gtT3_r {x0 x1 x2 y0 y1 y2 : Int} {Q : Bool → Prop} : rho (wC .gt (.v (.tup [.int x0, .int x1, .int x2])) (.v (.tup [.int y0, .int y1, .int y2])) s Q) = rho (Q (ordT (fun i j => decide (j < i)) (fun i j => decide (j < i)) [x0, x1, x2] [y0, y1, y2])) := congrArg rho (wC_gtT3)
theorem wC_geT3 {x0 x1 x2 y0 y1 y2 : Int} {Q : Bool → Prop} : wC .ge (.v (.tup [.int x0, .int x1, .int x2])) (.v (.tup [.int y0, .int y1, .int y2])) s Q = Q (ordT (fun i j => decide (j ≤ i)) (fun i j => decide (j ≤ i)) [x0, x1, x2] [y0, y1, y2]) := rfl
@[simp ↓] theorem wC_geT3_r {x0 x1 x2 y0 y1 y2 : Int} {Q : Bool → Prop} : rho (wC .ge (.v (.tup [.int x0, .int x1, .int x2])) (.v (.tup [.int y0, .int y1, .int y2])) s Q) = rho (Q (ordT (fun i j => decide (j ≤ i)) (fun i j => decide (j ≤ i)) [x0, x1, x2] [y0, y1, y2])) := congrArg rho (wC_geT3)
theorem wC_ltT4 {x0 x1 x2 x3 y0 y1 y2 y3 : Int} {Q : Bool → Prop} : wC .lt (.v (.tup [.int x0, .int x1, .int x2, .int x3])) (.v (.tup [.int y0, .int y1, .int y2, .int y3])) s Q = Q (ordT (fun i j => decide (i < j)) (fun i j => decide (i < j)) [x0, x1, x2, x3] [y0, y1, y2, y3]) := rfl
@[simp ↓] theorem wC_ltT4_r {x0 x1 x2 x3 y0 y1 y2 y3 : Int} {Q : Bool → Prop} : rho (wC .lt (.v (.tup [.int x0, .int x1, .int x2, .int x3])) (.v (.tup [.int y0, .int y1, .int y2, .int y3])) s Q) = rho (Q (ordT (fun i j => decide (i < j)) (fun i j => decide (i < j)) [x0, x1, x2, x3] [y0, y1, y2, y3])) := congrArg rho (wC_ltT4)
theorem wC_leT4 {x0 x1 x2 x3 y0 y1 y2 y3 : Int} {Q : Bool → Prop} : wC .le (.v (.tup [.int x0, .int x1, .int x2, .int x3])) (.v (.tup [.int y0, .int y1, .int y2, .int y3])) s Q = Q (ordT (fun i j => decide (i ≤ j)) (fun i j => decide (i ≤ j)) [x0, x1, x2, x3] [y0, y1, y2, y3]) := rfl
@[simp ↓] theorem wC_leT4_r {x0 x1 x2 x3 y0 y1 y2 y3 : Int} {Q : Bool → Prop} : rho (wC .le (.v (.tup [.int x0, .int x1, .int x2, .int x3])) (.v (.tup [.int y0, .int y1, .int y2, .int y3])) s Q) = rho (Q (ordT (fun i j => decide (i ≤ j)) (fun i j => decide (i ≤ j)) [x0, x1, x2, x3] [y0, y1, y2, y3])) := congrArg rho (wC_leT4)
theorem wC_gtT4 {x0 x1 x2 x3 y0 y1 y2 y3 : Int} {Q : Bool → Prop} : wC .gt (.v (.tup [.int x0, .int x1, .int x2, .int x3])) (.v (.tup [.int y0, .int y1, .int y2, .int y3])) s Q = Q (ordT (fun i j => decide (j < i)) (fun i j => decide (j < i)) [x0, x1, x2, x3] [y0, y1, y2, y3]) := rfl
@[simp ↓] theorem wC_gtT4_r {x0 x1 x2 x3 y0 y1 y2 y3 : Int} {Q : Bool → Prop} : rho (wC .gt (.v (.tup [.int x0, .int x1, .int x2, .int x3])) (.v (.tup [.int y0, .int y1, .int y2, .int y3])) s Q) = rho (Q (ordT (fun i j => decide (j < i)) (fun i j => decide (j < i)) [x0, x1, x2, x3] [y0, y1, y2, y3])) := congrArg rho (wC_gtT4)
theorem wC_geT4 {x0 x1 x2 x3 y0 y1 y2 y3 : Int} {Q : Bool → Prop} : wC .ge (.v (.tup [.int x0, .int x1, .int x2, .int x3])) (.v (.tup [.int y0, .int y1, .int y2, .int y3])) s Q = Q (ordT (fun i j => decide (j ≤ i)) (fun i j => decide (j ≤ i)) [x0, x1, x2, x3] [y0, y1, y2, y3]) := rfl
@[simp ↓] theorem wC_geT4_r {x0 x1 x2 x3 y0 y1 y2 y3 : Int} {Q : Bool → Prop} : rho (wC .ge (.v (.tup [.int x0, .int x1, .int x2, .int x3])) (.v (.tup [.int y0, .int y1, .int y2, .int y3])) s Q) = rho (Q (ordT (fun i j => decide (j ≤ i)) (fun i j => decide (j ≤ i)) [x0, x1, x2, x3] [y0, y1, y2, y3])) := congrArg rho (wC_geT4)
theorem wC_ltT5 {x0 x1 x2 x3 x4 y0 y1 y2 y3 y4 : Int} {Q : Bool → Prop} : wC .lt (.v (.tup [.int x0, .int x1, .int x2, .int x3, .int x4])) (.v (.tup [.int y0, .int y1, .int y2, .int y3, .int y4])) s Q = Q (ordT (fun i j => decide (i < j)) (fun i j => decide (i < j)) [x0, x1, x2, x3, x4] [y0, y1, y2, y3, y4]) := rfl
@[simp ↓] theorem wC_ltT5_r {x0 x1 x2 x3 x4 y0 y1 y2 y3 y4 : Int} {Q : Bool → Prop} : rho (wC .lt (.v (.tup [.int x0, .int x1, .int x2, .int x3, .int x4])) (.v (.tup [.int y0, .int y1, .int y2, .int y3, .int y4])) s Q) = rho (Q (ordT (fun i j => decide (i < j)) (fun i j => decide (i < j)) [x0, x1, x2, x3, x4] [y0, y1, y2, y3, y4])) := congrArg rho (wC_ltT5)
theorem wC_leT5 {x0 x1 x2 x3 x4 y0 y1 y2 y3 y4 : Int} {Q : Bool → Prop} : wC .le (.v (.tup [.int x0, .int x1, .int x2, .int x3, .int x4])) (.v (.tup [.int y0, .int y1, .int y2, .int y3, .int y4])) s Q = Q (ordT (fun i j => decide (i ≤ j)) (fun i j => decide (i ≤ j)) [x0, x1, x2, x3, x4] [y0, y1, y2, y3, y4]) := rfl
@[simp ↓] theorem wC_leT5_r {x0 x1 x2 x3 x4 y0 y1 y2 y3 y4 : Int} {Q : Bool → Prop} : rho (wC .le (.v (.tup [.int x0, .int x1, .int x2, .int x3, .int x4])) (.v (.tup [.int y0, .int y1, .int y2, .int y3, .int y4])) s Q) = rho (Q (ordT (fun i j => decide (i ≤ j)) (fun i j => decide (i ≤ j)) [x0, x1, x2, x3, x4] [y0, y1, y2, y3, y4])) := congrArg rho (wC_leT5)
theorem wC_gtT5 {x0 x1 x2 x3 x4 y0 y1 y2 y3 y4 : Int} {Q : Bool → Prop} : wC .gt (.v (.tup [.int x0, .int x1, .int x2, .int x3, .int x4])) (.v (.tup [.int y0, .int y1, .int y2, .int y3, .int y4])) s Q = Q (ordT (fun i j => decide (j < i)) (fun i j => decide (j < i)) [x0, x1, x2, x3, x4] [y0, y1, y2, y3, y4]) := rfl
@[simp ↓] theorem wC_gtT5_r {x0 x1 x2 x3 x4 y0 y1 y2 y3 y4 : Int} {Q : Bool → Prop} : rho (wC .gt (.v (.tup [.int x0, .int x1, .int x2, .int x3, .int x4])) (.v (.tup [.int y0, .int y1, .int y2, .int y3, .int y4])) s Q) = rho (Q (ordT (fun i j => decide (j < i)) (fun i j => decide (j < i)) [x0, x1, x2, x3, x4] [y0, y1, y2, y3, y4])) := congrArg rho (wC_gtT5)
theorem wC_geT5 {x0 x1 x2 x3 x4 y0 y1 y2 y3 y4 : Int} {Q : Bool → Prop} : wC .ge (.v (.tup [.int x0, .int x1, .int x2, .int x3, .int x4])) (.v (.tup [.int y0, .int y1, .int y2, .int y3, .int y4])) s Q = Q (ordT (fun i j => decide (j ≤ i)) (fun i j => decide (j ≤ i)) [x0, x1, x2, x3, x4] [y0, y1, y2, y3, y4]) := rfl
@[simp ↓] theorem wC_geT5_r {x0 x1 x2 x3 x4 y0 y1 y2 y3 y4 : Int} {Q : Bool → Prop} : rho (wC .ge (.v (.tup [.int x0, .int x1, .int x2, .int x3, .int x4])) (.v (.tup [.int y0, .int y1, .int y2, .int y3, .int y4])) s Q) = rho (Q (ordT (fun i j => decide (j ≤ i)) (fun i j => decide (j ≤ i)) [x0, x1, x2, x3, x4] [y0, y1, y2, y3, y4])) := congrArg rho (wC_geT5)
theorem ordT_nil {rel : Int → Int → Bool} {z : Nat → Nat → Bool} {l : List Int} : ordT rel z [] l = z 0 l.length := by cases l <;> rfl
theorem ordT_cons {rel : Int → Int → Bool} {z : Nat → Nat → Bool} {x y : Int} {l m : List Int} : ordT rel z (x :: l) (y :: m) = if x = y then ordT rel z l m else rel x y := rfl
theorem wC_is_nn {Q : Bool → Prop} : wC .is (.v .non) (.v .non) s Q = Q true := rfl
@[simp ↓] theorem wC_is_nn_r {Q : Bool → Prop} : rho (wC .is (.v .non) (.v .non) s Q) = rho (Q true) := congrArg rho (wC_is_nn)
theorem wC_isnot_nn {Q : Bool → Prop} : wC .isnot (.v .non) (.v .non) s Q = Q false := rfl
@[simp ↓] theorem wC_isnot_nn_r {Q : Bool → Prop} : rho (wC .isnot (.v .non) (.v .non) s Q) = rho (Q false) := congrArg rho (wC_isnot_nn)
theorem wC_is_t {Q : Bool → Prop} : wC .is (.t ds) (.v .non) s Q = Q false := rfl
@[simp ↓] theorem wC_is_t_r {Q : Bool → Prop} : rho (wC .is (.t ds) (.v .non) s Q) = rho (Q false) := congrArg rho (wC_is_t)
theorem wC_isnot_t {Q : Bool → Prop} : wC .isnot (.t ds) (.v .non) s Q = Q true := rfl
@[simp ↓] theorem wC_isnot_t_r {Q : Bool → Prop} : rho (wC .isnot (.t ds) (.v .non) s Q) = rho (Q true) := congrArg rho (wC_isnot_t)
theorem wIsi_t_int {Q : Bool → Prop} : wIsi (.t ds) [.bi .int] s Q = Q false := rfl
@[simp ↓] theorem wIsi_t_int_r {Q : Bool → Prop} : rho (wIsi (.t ds) [.bi .int] s Q) = rho (Q false) := congrArg rho (wIsi_t_int)
theorem wIsi_t_bool {Q : Bool → Prop} : wIsi (.t ds) [.bi .bool] s Q = Q false := rfl
@[simp ↓] theorem wIsi_t_bool_r {Q : Bool → Prop} : rho (wIsi (.t ds) [.bi .bool] s Q) = rho (Q false) := congrArg rho (wIsi_t_bool)
theorem wIsi_t_str {Q : Bool → Prop} : wIsi (.t ds) [.bi .str] s Q = Q false := rfl
@[simp ↓] theorem wIsi_t_str_r {Q : Bool → Prop} : rho (wIsi (.t ds) [.bi .str] s Q) = rho (Q false) := congrArg rho (wIsi_t_str)
theorem wIsi_t_list {Q : Bool → Prop} : wIsi (.t ds) [.bi .list] s Q = Q true := rfl
@[simp ↓] theorem wIsi_t_list_r {Q : Bool → Prop} : rho (wIsi (.t ds) [.bi .list] s Q) = rho (Q true) := congrArg rho (wIsi_t_list)
theorem wIsi_t_tuple {Q : Bool → Prop} : wIsi (.t ds) [.bi .tuple] s Q = Q false := rfl
@[simp ↓] theorem wIsi_t_tuple_r {Q : Bool → Prop} : rho (wIsi (.t ds) [.bi .tuple] s Q) = rho (Q false) := congrArg rho (wIsi_t_tuple)
theorem wIsi_t_dict {Q : Bool → Prop} : wIsi (.t ds) [.bi .dict] s Q = Q false := rfl
@[simp ↓] theorem wIsi_t_dict_r {Q : Bool → Prop} : rho (wIsi (.t ds) [.bi .dict] s Q) = rho (Q false) := congrArg rho (wIsi_t_dict)
theorem wIsi_non_int {Q : Bool → Prop} : wIsi (.v .non) [.bi .int] s Q = Q false := rfl
@[simp ↓] theorem wIsi_non_int_r {Q : Bool → Prop} : rho (wIsi (.v .non) [.bi .int] s Q) = rho (Q false) := congrArg rho (wIsi_non_int)
theorem wIsi_non_bool {Q : Bool → Prop} : wIsi (.v .non) [.bi .bool] s Q = Q false := rfl
@[simp ↓] theorem wIsi_non_bool_r {Q : Bool → Prop} : rho (wIsi (.v .non) [.bi .bool] s Q) = rho (Q false) := congrArg rho (wIsi_non_bool)
theorem wIsi_non_str {Q : Bool → Prop} : wIsi (.v .non) [.bi .str] s Q = Q false := rfl
@[simp ↓] theorem wIsi_non_str_r {Q : Bool → Prop} : rho (wIsi (.v .non) [.bi .str] s Q) = rho (Q false) := congrArg rho (wIsi_non_str)
theorem wIsi_non_list {Q : Bool → Prop} : wIsi (.v .non) [.bi .list] s Q = Q false := rfl
@[simp ↓] theorem wIsi_non_list_r {Q : Bool → Prop} : rho (wIsi (.v .non) [.bi .list] s Q) = rho (Q false) := congrArg rho (wIsi_non_list)
theorem wIsi_non_tuple {Q : Bool → Prop} : wIsi (.v .non) [.bi .tuple] s Q = Q false := rfl
@[simp ↓] theorem wIsi_non_tuple_r {Q : Bool → Prop} : rho (wIsi (.v .non) [.bi .tuple] s Q) = rho (Q false) := congrArg rho (wIsi_non_tuple)
theorem wIsi_non_dict {Q : Bool → Prop} : wIsi (.v .non) [.bi .dict] s Q = Q false := rfl
@[simp ↓] theorem wIsi_non_dict_r {Q : Bool → Prop} : rho (wIsi (.v .non) [.bi .dict] s Q) = rho (Q false) := congrArg rho (wIsi_non_dict)
theorem wC_is_bl {k : Bool} {Q : Bool → Prop} : wC .is (.v (.bl k)) (.v .non) s Q = Q false := rfl
@[simp ↓] theorem wC_is_bl_r {k : Bool} {Q : Bool → Prop} : rho (wC .is (.v (.bl k)) (.v .non) s Q) = rho (Q false) := congrArg rho (wC_is_bl)
theorem wC_isnot_bl {k : Bool} {Q : Bool → Prop} : wC .isnot (.v (.bl k)) (.v .non) s Q = Q true := rfl
@[simp ↓] theorem wC_isnot_bl_r {k : Bool} {Q : Bool → Prop} : rho (wC .isnot (.v (.bl k)) (.v .non) s Q) = rho (Q true) := congrArg rho (wC_isnot_bl)
theorem wIsi_bl_int {k : Bool} {Q : Bool → Prop} : wIsi (.v (.bl k)) [.bi .int] s Q = Q true := rfl
@[simp ↓] theorem wIsi_bl_int_r {k : Bool} {Q : Bool → Prop} : rho (wIsi (.v (.bl k)) [.bi .int] s Q) = rho (Q true) := congrArg rho (wIsi_bl_int)
theorem wIsi_bl_bool {k : Bool} {Q : Bool → Prop} : wIsi (.v (.bl k)) [.bi .bool] s Q = Q true := rfl
@[simp ↓] theorem wIsi_bl_bool_r {k : Bool} {Q : Bool → Prop} : rho (wIsi (.v (.bl k)) [.bi .bool] s Q) = rho (Q true) := congrArg rho (wIsi_bl_bool)
theorem wIsi_bl_str {k : Bool} {Q : Bool → Prop} : wIsi (.v (.bl k)) [.bi .str] s Q = Q false := rfl
@[simp ↓] theorem wIsi_bl_str_r {k : Bool} {Q : Bool → Prop} : rho (wIsi (.v (.bl k)) [.bi .str] s Q) = rho (Q false) := congrArg rho (wIsi_bl_str)
theorem wIsi_bl_list {k : Bool} {Q : Bool → Prop} : wIsi (.v (.bl k)) [.bi .list] s Q = Q false := rfl
@[simp ↓] theorem wIsi_bl_list_r {k : Bool} {Q : Bool → Prop} : rho (wIsi (.v (.bl k)) [.bi .list] s Q) = rho (Q false) := congrArg rho (wIsi_bl_list)
theorem wIsi_bl_tuple {k : Bool} {Q : Bool → Prop} : wIsi (.v (.bl k)) [.bi .tuple] s Q = Q false := rfl
@[simp ↓] theorem wIsi_bl_tuple_r {k : Bool} {Q : Bool → Prop} : rho (wIsi (.v (.bl k)) [.bi .tuple] s Q) = rho (Q false) := congrArg rho (wIsi_bl_tuple)
theorem wIsi_bl_dict {k : Bool} {Q : Bool → Prop} : wIsi (.v (.bl k)) [.bi .dict] s Q = Q false := rfl
@[simp ↓] theorem wIsi_bl_dict_r {k : Bool} {Q : Bool → Prop} : rho (wIsi (.v (.bl k)) [.bi .dict] s Q) = rho (Q false) := congrArg rho (wIsi_bl_dict)
theorem wC_is_int {Q : Bool → Prop} : wC .is (.v (.int i)) (.v .non) s Q = Q false := rfl
@[simp ↓] theorem wC_is_int_r {Q : Bool → Prop} : rho (wC .is (.v (.int i)) (.v .non) s Q) = rho (Q false) := congrArg rho (wC_is_int)
theorem wC_isnot_int {Q : Bool → Prop} : wC .isnot (.v (.int i)) (.v .non) s Q = Q true := rfl
@[simp ↓] theorem wC_isnot_int_r {Q : Bool → Prop} : rho (wC .isnot (.v (.int i)) (.v .non) s Q) = rho (Q true) := congrArg rho (wC_isnot_int)
theorem wIsi_int_int {Q : Bool → Prop} : wIsi (.v (.int i)) [.bi .int] s Q = Q true := rfl
@[simp ↓] theorem wIsi_int_int_r {Q : Bool → Prop} : rho (wIsi (.v (.int i)) [.bi .int] s Q) = rho (Q true) := congrArg rho (wIsi_int_int)
theorem wIsi_int_bool {Q : Bool → Prop} : wIsi (.v (.int i)) [.bi .bool] s Q = Q false := rfl
@[simp ↓] theorem wIsi_int_bool_r {Q : Bool → Prop} : rho (wIsi (.v (.int i)) [.bi .bool] s Q) = rho (Q false) := congrArg rho (wIsi_int_bool)
theorem wIsi_int_str {Q : Bool → Prop} : wIsi (.v (.int i)) [.bi .str] s Q = Q false := rfl
@[simp ↓] theorem wIsi_int_str_r {Q : Bool → Prop} : rho (wIsi (.v (.int i)) [.bi .str] s Q) = rho (Q false) := congrArg rho (wIsi_int_str)
theorem wIsi_int_list {Q : Bool → Prop} : wIsi (.v (.int i)) [.bi .list] s Q = Q false := rfl
@[simp ↓] theorem wIsi_int_list_r {Q : Bool → Prop} : rho (wIsi (.v (.int i)) [.bi .list] s Q) = rho (Q false) := congrArg rho (wIsi_int_list)
theorem wIsi_int_tuple {Q : Bool → Prop} : wIsi (.v (.int i)) [.bi .tuple] s Q = Q false := rfl
@[simp ↓] theorem wIsi_int_tuple_r {Q : Bool → Prop} : rho (wIsi (.v (.int i)) [.bi .tuple] s Q) = rho (Q false) := congrArg rho (wIsi_int_tuple)
theorem wIsi_int_dict {Q : Bool → Prop} : wIsi (.v (.int i)) [.bi .dict] s Q = Q false := rfl
@[simp ↓] theorem wIsi_int_dict_r {Q : Bool → Prop} : rho (wIsi (.v (.int i)) [.bi .dict] s Q) = rho (Q false) := congrArg rho (wIsi_int_dict)
theorem wC_is_str {x : Str} {Q : Bool → Prop} : wC .is (.v (.str x)) (.v .non) s Q = Q false := rfl
@[simp ↓] theorem wC_is_str_r {x : Str} {Q : Bool → Prop} : rho (wC .is (.v (.str x)) (.v .non) s Q) = rho (Q false) := congrArg rho (wC_is_str)
theorem wC_isnot_str {x : Str} {Q : Bool → Prop} : wC .isnot (.v (.str x)) (.v .non) s Q = Q true := rfl
@[simp ↓] theorem wC_isnot_str_r {x : Str} {Q : Bool → Prop} : rho (wC .isnot (.v (.str x)) (.v .non) s Q) = rho (Q true) := congrArg rho (wC_isnot_str)
theorem wIsi_str_int {x : Str} {Q : Bool → Prop} : wIsi (.v (.str x)) [.bi .int] s Q = Q false := rfl
@[simp ↓] theorem wIsi_str_int_r {x : Str} {Q : Bool → Prop} : rho (wIsi (.v (.str x)) [.bi .int] s Q) = rho (Q false) := congrArg rho (wIsi_str_int)
theorem wIsi_str_bool {x : Str} {Q : Bool → Prop} : wIsi (.v (.str x)) [.bi .bool] s Q = Q false := rfl
@[simp ↓] theorem wIsi_str_bool_r {x : Str} {Q : Bool → Prop} : rho (wIsi (.v (.str x)) [.bi .bool] s Q) = rho (Q false) := congrArg rho (wIsi_str_bool)
theorem wIsi_str_str {x : Str} {Q : Bool → Prop} : wIsi (.v (.str x)) [.bi .str] s Q = Q true := rfl
@[simp ↓] theorem wIsi_str_str_r {x : Str} {Q : Bool → Prop} : rho (wIsi (.v (.str x)) [.bi .str] s Q) = rho (Q true) := congrArg rho (wIsi_str_str)
theorem wIsi_str_list {x : Str} {Q : Bool → Prop} : wIsi (.v (.str x)) [.bi .list] s Q = Q false := rfl
@[simp ↓] theorem wIsi_str_list_r {x : Str} {Q : Bool → Prop} : rho (wIsi (.v (.str x)) [.bi .list] s Q) = rho (Q false) := congrArg rho (wIsi_str_list)
theorem wIsi_str_tuple {x : Str} {Q : Bool → Prop} : wIsi (.v (.str x)) [.bi .tuple] s Q = Q false := rfl
@[simp ↓] theorem wIsi_str_tuple_r {x : Str} {Q : Bool → Prop} : rho (wIsi (.v (.str x)) [.bi .tuple] s Q) = rho (Q false) := congrArg rho (wIsi_str_tuple)
theorem wIsi_str_dict {x : Str} {Q : Bool → Prop} : wIsi (.v (.str x)) [.bi .dict] s Q = Q false := rfl
@[simp ↓] theorem wIsi_str_dict_r {x : Str} {Q : Bool → Prop} : rho (wIsi (.v (.str x)) [.bi .dict] s Q) = rho (Q false) := congrArg rho (wIsi_str_dict)
theorem wC_is_tup {Q : Bool → Prop} : wC .is (.v (.tup ds)) (.v .non) s Q = Q false := rfl
@[simp ↓] theorem wC_is_tup_r {Q : Bool → Prop} : rho (wC .is (.v (.tup ds)) (.v .non) s Q) = rho (Q false) := congrArg rho (wC_is_tup)
theorem wC_isnot_tup {Q : Bool → Prop} : wC .isnot (.v (.tup ds)) (.v .non) s Q = Q true := rfl
@[simp ↓] theorem wC_isnot_tup_r {Q : Bool → Prop} : rho (wC .isnot (.v (.tup ds)) (.v .non) s Q) = rho (Q true) := congrArg rho (wC_isnot_tup)
theorem wIsi_tup_int {Q : Bool → Prop} : wIsi (.v (.tup ds)) [.bi .int] s Q = Q false := rfl
@[simp ↓] theorem wIsi_tup_int_r {Q : Bool → Prop} : rho (wIsi (.v (.tup ds)) [.bi .int] s Q) = rho (Q false) := congrArg rho (wIsi_tup_int)
theorem wIsi_tup_bool {Q : Bool → Prop} : wIsi (.v (.tup ds)) [.bi .bool] s Q = Q false := rfl
@[simp ↓] theorem wIsi_tup_bool_r {Q : Bool → Prop} : rho (wIsi (.v (.tup ds)) [.bi .bool] s Q) = rho (Q false) := congrArg rho (wIsi_tup_bool)
theorem wIsi_tup_str {Q : Bool → Prop} : wIsi (.v (.tup ds)) [.bi .str] s Q = Q false := rfl
@[simp ↓] theorem wIsi_tup_str_r {Q : Bool → Prop} : rho (wIsi (.v (.tup ds)) [.bi .str] s Q) = rho (Q false) := congrArg rho (wIsi_tup_str)
theorem wIsi_tup_list {Q : Bool → Prop} : wIsi (.v (.tup ds)) [.bi .list] s Q = Q false := rfl
@[simp ↓] theorem wIsi_tup_list_r {Q : Bool → Prop} : rho (wIsi (.v (.tup ds)) [.bi .list] s Q) = rho (Q false) := congrArg rho (wIsi_tup_list)
theorem wIsi_tup_tuple {Q : Bool → Prop} : wIsi (.v (.tup ds)) [.bi .tuple] s Q = Q true := rfl
@[simp ↓] theorem wIsi_tup_tuple_r {Q : Bool → Prop} : rho (wIsi (.v (.tup ds)) [.bi .tuple] s Q) = rho (Q true) := congrArg rho (wIsi_tup_tuple)
theorem wIsi_tup_dict {Q : Bool → Prop} : wIsi (.v (.tup ds)) [.bi .dict] s Q = Q false := rfl
@[simp ↓] theorem wIsi_tup_dict_r {Q : Bool → Prop} : rho (wIsi (.v (.tup ds)) [.bi .dict] s Q) = rho (Q false) := congrArg rho (wIsi_tup_dict)
theorem wC_is_ro {Q : Bool → Prop} : wC .is (.v (.ro ds)) (.v .non) s Q = Q false := rfl
@[simp ↓] theorem wC_is_ro_r {Q : Bool → Prop} : rho (wC .is (.v (.ro ds)) (.v .non) s Q) = rho (Q false) := congrArg rho (wC_is_ro)
theorem wC_isnot_ro {Q : Bool → Prop} : wC .isnot (.v (.ro ds)) (.v .non) s Q = Q true := rfl
@[simp ↓] theorem wC_isnot_ro_r {Q : Bool → Prop} : rho (wC .isnot (.v (.ro ds)) (.v .non) s Q) = rho (Q true) := congrArg rho (wC_isnot_ro)
theorem wIsi_ro_int {Q : Bool → Prop} : wIsi (.v (.ro ds)) [.bi .int] s Q = Q false := rfl
@[simp ↓] theorem wIsi_ro_int_r {Q : Bool → Prop} : rho (wIsi (.v (.ro ds)) [.bi .int] s Q) = rho (Q false) := congrArg rho (wIsi_ro_int)
theorem wIsi_ro_bool {Q : Bool → Prop} : wIsi (.v (.ro ds)) [.bi .bool] s Q = Q false := rfl
@[simp ↓] theorem wIsi_ro_bool_r {Q : Bool → Prop} : rho (wIsi (.v (.ro ds)) [.bi .bool] s Q) = rho (Q false) := congrArg rho (wIsi_ro_bool)
theorem wIsi_ro_str {Q : Bool → Prop} : wIsi (.v (.ro ds)) [.bi .str] s Q = Q false := rfl
@[simp ↓] theorem wIsi_ro_str_r {Q : Bool → Prop} : rho (wIsi (.v (.ro ds)) [.bi .str] s Q) = rho (Q false) := congrArg rho (wIsi_ro_str)
theorem wIsi_ro_list {Q : Bool → Prop} : wIsi (.v (.ro ds)) [.bi .list] s Q = Q true := rfl
@[simp ↓] theorem wIsi_ro_list_r {Q : Bool → Prop} : rho (wIsi (.v (.ro ds)) [.bi .list] s Q) = rho (Q true) := congrArg rho (wIsi_ro_list)
theorem wIsi_ro_tuple {Q : Bool → Prop} : wIsi (.v (.ro ds)) [.bi .tuple] s Q = Q false := rfl
@[simp ↓] theorem wIsi_ro_tuple_r {Q : Bool → Prop} : rho (wIsi (.v (.ro ds)) [.bi .tuple] s Q) = rho (Q false) := congrArg rho (wIsi_ro_tuple)
theorem wIsi_ro_dict {Q : Bool → Prop} : wIsi (.v (.ro ds)) [.bi .dict] s Q = Q false := rfl
@[simp ↓] theorem wIsi_ro_dict_r {Q : Bool → Prop} : rho (wIsi (.v (.ro ds)) [.bi .dict] s Q) = rho (Q false) := congrArg rho (wIsi_ro_dict)
theorem isi_int_int {Q : Bool → Prop} : wOf (isiD TyN.int [Ty.bi TyN.int]) Q = Q true := rfl
@[simp ↓] theorem isi_int_int_r {Q : Bool → Prop} : rho (wOf (isiD TyN.int [Ty.bi TyN.int]) Q) = rho (Q true) := congrArg rho (isi_int_int)
theorem isi_int_bool {Q : Bool → Prop} : wOf (isiD TyN.int [Ty.bi TyN.bool]) Q = Q false := rfl
@[simp ↓] theorem isi_int_bool_r {Q : Bool → Prop} : rho (wOf (isiD TyN.int [Ty.bi TyN.bool]) Q) = rho (Q false) := congrArg rho (isi_int_bool)
theorem isi_int_str {Q : Bool → Prop} : wOf (isiD TyN.int [Ty.bi TyN.str]) Q = Q false := rfl
@[simp ↓] theorem isi_int_str_r {Q : Bool → Prop} : rho (wOf (isiD TyN.int [Ty.bi TyN.str]) Q) = rho (Q false) := congrArg rho (isi_int_str)
theorem isi_int_list {Q : Bool → Prop} : wOf (isiD TyN.int [Ty.bi TyN.list]) Q = Q false := rfl
@[simp ↓] theorem isi_int_list_r {Q : Bool → Prop} : rho (wOf (isiD TyN.int [Ty.bi TyN.list]) Q) = rho (Q false) := congrArg rho (isi_int_list)
theorem isi_int_tuple {Q : Bool → Prop} : wOf (isiD TyN.int [Ty.bi TyN.tuple]) Q = Q false := rfl
@[simp ↓] theorem isi_int_tuple_r {Q : Bool → Prop} : rho (wOf (isiD TyN.int [Ty.bi TyN.tuple]) Q) = rho (Q false) := congrArg rho (isi_int_tuple)
theorem isi_int_dict {Q : Bool → Prop} : wOf (isiD TyN.int [Ty.bi TyN.dict]) Q = Q false := rfl
@[simp ↓] theorem isi_int_dict_r {Q : Bool → Prop} : rho (wOf (isiD TyN.int [Ty.bi TyN.dict]) Q) = rho (Q false) := congrArg rho (isi_int_dict)
theorem isi_bool_int {Q : Bool → Prop} : wOf (isiD TyN.bool [Ty.bi TyN.int]) Q = Q true := rfl
@[simp ↓] theorem isi_bool_int_r {Q : Bool → Prop} : rho (wOf (isiD TyN.bool [Ty.bi TyN.int]) Q) = rho (Q true) := congrArg rho (isi_bool_int)
theorem isi_bool_bool {Q : Bool → Prop} : wOf (isiD TyN.bool [Ty.bi TyN.bool]) Q = Q true := rfl
@[simp ↓] theorem isi_bool_bool_r {Q : Bool → Prop} : rho (wOf (isiD TyN.bool [Ty.bi TyN.bool]) Q) = rho (Q true) := congrArg rho (isi_bool_bool)
theorem isi_bool_str {Q : Bool → Prop} : wOf (isiD TyN.bool [Ty.bi TyN.str]) Q = Q false := rfl
@[simp ↓] theorem isi_bool_str_r {Q : Bool → Prop} : rho (wOf (isiD TyN.bool [Ty.bi TyN.str]) Q) = rho (Q false) := congrArg rho (isi_bool_str)
theorem isi_bool_list {Q : Bool → Prop} : wOf (isiD TyN.bool [Ty.bi TyN.list]) Q = Q false := rfl
@[simp ↓] theorem isi_bool_list_r {Q : Bool → Prop} : rho (wOf (isiD TyN.bool [Ty.bi TyN.list]) Q) = rho (Q false) := congrArg rho (isi_bool_list)
theorem isi_bool_tuple {Q : Bool → Prop} : wOf (isiD TyN.bool [Ty.bi TyN.tuple]) Q = Q false := rfl
@[simp ↓] theorem isi_bool_tuple_r {Q : Bool → Prop} : rho (wOf (isiD TyN.bool [Ty.bi TyN.tuple]) Q) = rho (Q false) := congrArg rho (isi_bool_tuple)
theorem isi_bool_dict {Q : Bool → Prop} : wOf (isiD TyN.bool [Ty.bi TyN.dict]) Q = Q false := rfl
@[simp ↓] theorem isi_bool_dict_r {Q : Bool → Prop} : rho (wOf (isiD TyN.bool [Ty.bi TyN.dict]) Q) = rho (Q false) := congrArg rho (isi_bool_dict)
theorem isi_str_int {Q : Bool → Prop} : wOf (isiD TyN.str [Ty.bi TyN.int]) Q = Q false := rfl
@[simp ↓] theorem isi_str_int_r {Q : Bool → Prop} : rho (wOf (isiD TyN.str [Ty.bi TyN.int]) Q) = rho (Q false) := congrArg rho (isi_str_int)
theorem isi_str_bool {Q : Bool → Prop} : wOf (isiD TyN.str [Ty.bi TyN.bool]) Q = Q false := rfl
@[simp ↓] theorem isi_str_bool_r {Q : Bool → Prop} : rho (wOf (isiD TyN.str [Ty.bi TyN.bool]) Q) = rho (Q false) := congrArg rho (isi_str_bool)
theorem isi_str_str {Q : Bool → Prop} : wOf (isiD TyN.str [Ty.bi TyN.str]) Q = Q true := rfl
@[simp ↓] theorem isi_str_str_r {Q : Bool → Prop} : rho (wOf (isiD TyN.str [Ty.bi TyN.str]) Q) = rho (Q true) := congrArg rho (isi_str_str)
theorem isi_str_list {Q : Bool → Prop} : wOf (isiD TyN.str [Ty.bi TyN.list]) Q = Q false := rfl
@[simp ↓] theorem isi_str_list_r {Q : Bool → Prop} : rho (wOf (isiD TyN.str [Ty.bi TyN.list]) Q) = rho (Q false) := congrArg rho (isi_str_list)
theorem isi_str_tuple {Q : Bool → Prop} : wOf (isiD TyN.str [Ty.bi TyN.tuple]) Q = Q false := rfl
@[simp ↓] theorem isi_str_tuple_r {Q : Bool → Prop} : rho (wOf (isiD TyN.str [Ty.bi TyN.tuple]) Q) = rho (Q false) := congrArg rho (isi_str_tuple)
theorem isi_str_dict {Q : Bool → Prop} : wOf (isiD TyN.str [Ty.bi TyN.dict]) Q = Q false := rfl
@[simp ↓] theorem isi_str_dict_r {Q : Bool → Prop} : rho (wOf (isiD TyN.str [Ty.bi TyN.dict]) Q) = rho (Q false) := congrArg rho (isi_str_dict)
theorem isi_list_int {Q : Bool → Prop} : wOf (isiD TyN.list [Ty.bi TyN.int]) Q = Q false := rfl
@[simp ↓] theorem isi_list_int_r {Q : Bool → Prop} : rho (wOf (isiD TyN.list [Ty.bi TyN.int]) Q) = rho (Q false) := congrArg rho (isi_list_int)
theorem isi_list_bool {Q : Bool → Prop} : wOf (isiD TyN.list [Ty.bi TyN.bool]) Q = Q false := rfl
@[simp ↓] theorem isi_list_bool_r {Q : Bool → Prop} : rho (wOf (isiD TyN.list [Ty.bi TyN.bool]) Q) = rho (Q false) := congrArg rho (isi_list_bool)
theorem isi_list_str {Q : Bool → Prop} : wOf (isiD TyN.list [Ty.bi TyN.str]) Q = Q false := rfl
@[simp ↓] theorem isi_list_str_r {Q : Bool → Prop} : rho (wOf (isiD TyN.list [Ty.bi TyN.str]) Q) = rho (Q false) := congrArg rho (isi_list_str)
theorem isi_list_list {Q : Bool → Prop} : wOf (isiD TyN.list [Ty.bi TyN.list]) Q = Q true := rfl
@[simp ↓] theorem isi_list_list_r {Q : Bool → Prop} : rho (wOf (isiD TyN.list [Ty.bi TyN.list]) Q) = rho (Q true) := congrArg rho (isi_list_list)
theorem isi_list_tuple {Q : Bool → Prop} : wOf (isiD TyN.list [Ty.bi TyN.tuple]) Q = Q false := rfl
@[simp ↓] theorem isi_list_tuple_r {Q : Bool → Prop} : rho (wOf (isiD TyN.list [Ty.bi TyN.tuple]) Q) = rho (Q false) := congrArg rho (isi_list_tuple)
theorem isi_list_dict {Q : Bool → Prop} : wOf (isiD TyN.list [Ty.bi TyN.dict]) Q = Q false := rfl
@[simp ↓] theorem isi_list_dict_r {Q : Bool → Prop} : rho (wOf (isiD TyN.list [Ty.bi TyN.dict]) Q) = rho (Q false) := congrArg rho (isi_list_dict)
theorem isi_tuple_int {Q : Bool → Prop} : wOf (isiD TyN.tuple [Ty.bi TyN.int]) Q = Q false := rfl
@[simp ↓] theorem isi_tuple_int_r {Q : Bool → Prop} : rho (wOf (isiD TyN.tuple [Ty.bi TyN.int]) Q) = rho (Q false) := congrArg rho (isi_tuple_int)
theorem isi_tuple_bool {Q : Bool → Prop} : wOf (isiD TyN.tuple [Ty.bi TyN.bool]) Q = Q false := rfl
@[simp ↓] theorem isi_tuple_bool_r {Q : Bool → Prop} : rho (wOf (isiD TyN.tuple [Ty.bi TyN.bool]) Q) = rho (Q false) := congrArg rho (isi_tuple_bool)
theorem isi_tuple_str {Q : Bool → Prop} : wOf (isiD TyN.tuple [Ty.bi TyN.str]) Q = Q false := rfl
@[simp ↓] theorem isi_tuple_str_r {Q : Bool → Prop} : rho (wOf (isiD TyN.tuple [Ty.bi TyN.str]) Q) = rho (Q false) := congrArg rho (isi_tuple_str)
theorem isi_tuple_list {Q : Bool → Prop} : wOf (isiD TyN.tuple [Ty.bi TyN.list]) Q = Q false := rfl
@[simp ↓] theorem isi_tuple_list_r {Q : Bool → Prop} : rho (wOf (isiD TyN.tuple [Ty.bi TyN.list]) Q) = rho (Q false) := congrArg rho (isi_tuple_list)
theorem isi_tuple_tuple {Q : Bool → Prop} : wOf (isiD TyN.tuple [Ty.bi TyN.tuple]) Q = Q true := rfl
@[simp ↓] theorem isi_tuple_tuple_r {Q : Bool → Prop} : rho (wOf (isiD TyN.tuple [Ty.bi TyN.tuple]) Q) = rho (Q true) := congrArg rho (isi_tuple_tuple)
theorem isi_tuple_dict {Q : Bool → Prop} : wOf (isiD TyN.tuple [Ty.bi TyN.dict]) Q = Q false := rfl
@[simp ↓] theorem isi_tuple_dict_r {Q : Bool → Prop} : rho (wOf (isiD TyN.tuple [Ty.bi TyN.dict]) Q) = rho (Q false) := congrArg rho (isi_tuple_dict)
theorem isi_dict_int {Q : Bool → Prop} : wOf (isiD TyN.dict [Ty.bi TyN.int]) Q = Q false := rfl
@[simp ↓] theorem isi_dict_int_r {Q : Bool → Prop} : rho (wOf (isiD TyN.dict [Ty.bi TyN.int]) Q) = rho (Q false) := congrArg rho (isi_dict_int)
theorem isi_dict_bool {Q : Bool → Prop} : wOf (isiD TyN.dict [Ty.bi TyN.bool]) Q = Q false := rfl
@[simp ↓] theorem isi_dict_bool_r {Q : Bool → Prop} : rho (wOf (isiD TyN.dict [Ty.bi TyN.bool]) Q) = rho (Q false) := congrArg rho (isi_dict_bool)
theorem isi_dict_str {Q : Bool → Prop} : wOf (isiD TyN.dict [Ty.bi TyN.str]) Q = Q false := rfl
@[simp ↓] theorem isi_dict_str_r {Q : Bool → Prop} : rho (wOf (isiD TyN.dict [Ty.bi TyN.str]) Q) = rho (Q false) := congrArg rho (isi_dict_str)
theorem isi_dict_list {Q : Bool → Prop} : wOf (isiD TyN.dict [Ty.bi TyN.list]) Q = Q false := rfl
@[simp ↓] theorem isi_dict_list_r {Q : Bool → Prop} : rho (wOf (isiD TyN.dict [Ty.bi TyN.list]) Q) = rho (Q false) := congrArg rho (isi_dict_list)
theorem isi_dict_tuple {Q : Bool → Prop} : wOf (isiD TyN.dict [Ty.bi TyN.tuple]) Q = Q false := rfl
@[simp ↓] theorem isi_dict_tuple_r {Q : Bool → Prop} : rho (wOf (isiD TyN.dict [Ty.bi TyN.tuple]) Q) = rho (Q false) := congrArg rho (isi_dict_tuple)
theorem isi_dict_dict {Q : Bool → Prop} : wOf (isiD TyN.dict [Ty.bi TyN.dict]) Q = Q true := rfl

@[simp ↓] theorem isi_dict_dict_r {Q : Bool → Prop} : rho (wOf (isiD TyN.dict [Ty.bi TyN.dict]) Q) = rho (Q true) := congrArg rho (isi_dict_dict)
def wTy (c : Cell) (Q : TyN → Prop) : Prop := match c with
  | .lst _ => Q .list
  | .dic false _ => Q .dict
  | _ => False
theorem wTy_lst {Q : TyN → Prop} : wTy (.lst ds) Q = Q .list := rfl
@[simp ↓] theorem wTy_lst_r {Q : TyN → Prop} : rho (wTy (.lst ds) Q) = rho (Q .list) := congrArg rho (wTy_lst)
theorem wTy_dic {kvs : List (L2.Key × D)} {Q : TyN → Prop} : wTy (.dic false kvs) Q = Q .dict := rfl
@[simp ↓] theorem wTy_dic_r {kvs : List (L2.Key × D)} {Q : TyN → Prop} : rho (wTy (.dic false kvs) Q) = rho (Q .dict) := congrArg rho (wTy_dic)
theorem wIsi_ref {t : TyN} {Q : Bool → Prop} : wIsi (.v (.ref n)) [.bi t] s Q = wCl s n fun c => wTy c fun u => wOf (isiD u [.bi t]) Q := by
  have e : tyD (.v (.ref n)) s = (match s[n]? with | some (.lst _) => some .list | some (.dic false _) => some .dict | _ => none) := rfl
  unfold wIsi wCl
  rw [e]
  cases s[n]? with
  | none => rfl
  | some cc => cases cc with
    | lst l => rfl
    | ins c fs => rfl
    | dic b kvs => cases b <;> rfl
@[simp ↓] theorem wIsi_ref_r {t : TyN} {Q : Bool → Prop} : rho (wIsi (.v (.ref n)) [.bi t] s Q) = rho (wCl s n fun c => wTy c fun u => wOf (isiD u [.bi t]) Q) := congrArg rho (wIsi_ref)
theorem wC_is_ref {Q : Bool → Prop} : wC .is (.v (.ref n)) (.v .non) s Q = Q false := rfl
@[simp ↓] theorem wC_is_ref_r {Q : Bool → Prop} : rho (wC .is (.v (.ref n)) (.v .non) s Q) = rho (Q false) := congrArg rho (wC_is_ref)
theorem wC_isnot_ref {Q : Bool → Prop} : wC .isnot (.v (.ref n)) (.v .non) s Q = Q true := rfl
@[simp ↓] theorem wC_isnot_ref_r {Q : Bool → Prop} : rho (wC .isnot (.v (.ref n)) (.v .non) s Q) = rho (Q true) := congrArg rho (wC_isnot_ref)
theorem wBi_len_t {Q : Ev → Prop} : wBi .len [.t ds] s Q = Q (.v (.int ds.length)) := rfl
@[simp ↓] theorem wBi_len_t_r {Q : Ev → Prop} : rho (wBi .len [.t ds] s Q) = rho (Q (.v (.int ds.length))) := congrArg rho (wBi_len_t)
theorem wBi_len_tup {Q : Ev → Prop} : wBi .len [.v (.tup ds)] s Q = Q (.v (.int ds.length)) := rfl
@[simp ↓] theorem wBi_len_tup_r {Q : Ev → Prop} : rho (wBi .len [.v (.tup ds)] s Q) = rho (Q (.v (.int ds.length))) := congrArg rho (wBi_len_tup)
theorem wBi_len_ro {Q : Ev → Prop} : wBi .len [.v (.ro ds)] s Q = Q (.v (.int ds.length)) := rfl
@[simp ↓] theorem wBi_len_ro_r {Q : Ev → Prop} : rho (wBi .len [.v (.ro ds)] s Q) = rho (Q (.v (.int ds.length))) := congrArg rho (wBi_len_ro)
def wLen (c : Cell) (Q : Int → Prop) : Prop := match c with
  | .lst ds => Q ds.length
  | .dic _ kvs => Q kvs.length
  | _ => False
theorem wLen_lst {Q : Int → Prop} : wLen (.lst ds) Q = Q ds.length := rfl
@[simp ↓] theorem wLen_lst_r {Q : Int → Prop} : rho (wLen (.lst ds) Q) = rho (Q ds.length) := congrArg rho (wLen_lst)
theorem wLen_dic {b : Bool} {kvs : List (L2.Key × D)} {Q : Int → Prop} : wLen (.dic b kvs) Q = Q kvs.length := rfl
@[simp ↓] theorem wLen_dic_r {b : Bool} {kvs : List (L2.Key × D)} {Q : Int → Prop} : rho (wLen (.dic b kvs) Q) = rho (Q kvs.length) := congrArg rho (wLen_dic)
theorem wBi_len_ref {Q : Ev → Prop} : wBi .len [.v (.ref n)] s Q = wCl s n fun c => wLen c fun i => Q (.v (.int i)) := by
  have e : bLen [.v (.ref n)] s = (match dicE s (.v (.ref n)) with | some kvs => some (.v (.int kvs.length)) | none => (items s (.v (.ref n))).map fun ds => .v (.int ds.length)) := rfl
  have e1 : dicE s (.v (.ref n)) = (match s[n]? with | some (.dic _ kvs) => some kvs | _ => none) := rfl
  have e2 : items s (.v (.ref n)) = (match s[n]? with | some (.lst ds) => some ds | _ => none) := rfl
  show wOf (bLen [.v (.ref n)] s) Q = _
  unfold wCl
  rw [e, e1, e2]
  cases s[n]? with
  | none => rfl
  | some cc => cases cc <;> rfl
@[simp ↓] theorem wBi_len_ref_r {Q : Ev → Prop} : rho (wBi .len [.v (.ref n)] s Q) = rho (wCl s n fun c => wLen c fun i => Q (.v (.int i))) := congrArg rho (wBi_len_ref)
theorem wBi_len_str {x : Str} {Q : Ev → Prop} : wBi .len [.v (.str x)] s Q = (x.length < lim ∧ Q (.v (.int x.length))) := by
  show wOf (if x.length < lim then some (Ev.v (.int x.length)) else none) Q = _
  by_cases h : x.length < lim
  · rw [if_pos h]; simp only [h, true_and]; rfl
  · rw [if_neg h]; simp only [h, false_and]; rfl
@[simp ↓] theorem wBi_len_str_r {x : Str} {Q : Ev → Prop} : rho (wBi .len [.v (.str x)] s Q) = rho ((x.length < lim ∧ Q (.v (.int x.length)))) := congrArg rho (wBi_len_str)
theorem log_le (h : -10 ^ 250 < i ∧ i < 10 ^ 250) : i.natAbs.log2 < 1920 := by
  have e := big_iff h
  unfold bigOk at e
  exact Nat.lt_of_lt_of_le (PySem.Flt.log2_lt_of (by decide) (of_decide_eq_true e)) (by decide)
theorem wBi_str_int {Q : Ev → Prop} (h : -10 ^ 250 < i ∧ i < 10 ^ 250) : wBi .str [.v (.int i)] s Q = Q (.v (.str (toString i))) := by
  show wOf (if i.natAbs.log2 < 1920 then some (Ev.v (.str (toString i))) else none) Q = _
  rw [if_pos (log_le h)]; rfl
@[simp ↓] theorem wBi_str_int_r {Q : Ev → Prop} (h : -10 ^ 250 < i ∧ i < 10 ^ 250) : rho (wBi .str [.v (.int i)] s Q) = rho (Q (.v (.str (toString i)))) := congrArg rho (wBi_str_int h)
theorem wBi_str_str {x : Str} {Q : Ev → Prop} : wBi .str [.v (.str x)] s Q = Q (.v (.str x)) := rfl
@[simp ↓] theorem wBi_str_str_r {x : Str} {Q : Ev → Prop} : rho (wBi .str [.v (.str x)] s Q) = rho (Q (.v (.str x))) := congrArg rho (wBi_str_str)
theorem wBi_int_str {x : Str} {Q : Ev → Prop} (hl : x.length ≤ 640) (h : PySem.intText? x = some i) : wBi .int [.v (.str x)] s Q = Q (.v (.int i)) := by
  show wOf (if x.length ≤ 640 then (PySem.intText? x).map fun i => Ev.v (.int i) else none) Q = _
  rw [if_pos hl, h]; rfl
theorem wBi_tuple_t {Q : Ev → Prop} : wBi .tuple [.t ds] s Q = Q (.v (.tup ds)) := rfl
@[simp ↓] theorem wBi_tuple_t_r {Q : Ev → Prop} : rho (wBi .tuple [.t ds] s Q) = rho (Q (.v (.tup ds))) := congrArg rho (wBi_tuple_t)
theorem wBi_tuple_tup {Q : Ev → Prop} : wBi .tuple [.v (.tup ds)] s Q = Q (.v (.tup ds)) := rfl
@[simp ↓] theorem wBi_tuple_tup_r {Q : Ev → Prop} : rho (wBi .tuple [.v (.tup ds)] s Q) = rho (Q (.v (.tup ds))) := congrArg rho (wBi_tuple_tup)
theorem wBi_tuple_ref {Q : Ev → Prop} : wBi .tuple [.v (.ref n)] s Q = wGet s n fun ds => Q (.v (.tup ds)) := by
  show wOf ((match s[n]? with | some (.lst ds) => some ds | _ => none : Option (List D)).map _) Q = (match s[n]? with | some (.lst ds) => _ | _ => _)
  cases s[n]? with
  | none => rfl
  | some cc => cases cc <;> rfl
@[simp ↓] theorem wBi_tuple_ref_r {Q : Ev → Prop} : rho (wBi .tuple [.v (.ref n)] s Q) = rho (wGet s n fun ds => Q (.v (.tup ds))) := congrArg rho (wBi_tuple_ref)
theorem wBi_rev_t {Q : Ev → Prop} : wBi .rev [.t ds] s Q = Q (.t ds.reverse) := rfl
@[simp ↓] theorem wBi_rev_t_r {Q : Ev → Prop} : rho (wBi .rev [.t ds] s Q) = rho (Q (.t ds.reverse)) := congrArg rho (wBi_rev_t)
theorem wBi_rev_ref {Q : Ev → Prop} : wBi .rev [.v (.ref n)] s Q = wGet s n fun ds => Q (.t ds.reverse) := by
  show wOf ((match s[n]? with | some (.lst ds) => some ds | _ => none : Option (List D)).map _) Q = (match s[n]? with | some (.lst ds) => _ | _ => _)
  cases s[n]? with
  | none => rfl
  | some cc => cases cc <;> rfl
@[simp ↓] theorem wBi_rev_ref_r {Q : Ev → Prop} : rho (wBi .rev [.v (.ref n)] s Q) = rho (wGet s n fun ds => Q (.t ds.reverse)) := congrArg rho (wBi_rev_ref)
def wSrt (ds : List D) (Q : List D → Prop) : Prop := srtOk ds = true ∧ Q (sortBy ltSrt ds)
theorem wSrt_eq {Q : Ev → Prop} : wOf (if srtOk ds then some (Ev.t (sortBy ltSrt ds)) else none) Q = wSrt ds fun l => Q (.t l) := by
  unfold wSrt
  by_cases h : srtOk ds = true
  · rw [if_pos h]; simp only [h, true_and]; rfl
  · rw [if_neg h]; exact propext ⟨fun z => z.elim, fun z => h z.1⟩
theorem wBi_sorted_t {Q : Ev → Prop} : wBi .sorted [.t ds] s Q = wSrt ds fun l => Q (.t l) := wSrt_eq
@[simp ↓] theorem wBi_sorted_t_r {Q : Ev → Prop} : rho (wBi .sorted [.t ds] s Q) = rho (wSrt ds fun l => Q (.t l)) := congrArg rho (wBi_sorted_t)
theorem wBi_sorted_ref {Q : Ev → Prop} : wBi .sorted [.v (.ref n)] s Q = wGet s n fun ds => wSrt ds fun l => Q (.t l) := by
  show wOf ((match s[n]? with | some (.lst ds) => some ds | _ => none : Option (List D)).bind fun ds => if srtOk ds then some (Ev.t (sortBy ltSrt ds)) else none) Q = (match s[n]? with | some (.lst ds) => _ | _ => _)
  cases s[n]? with
  | none => rfl
  | some cc => cases cc with
    | lst l => exact wSrt_eq
    | _ => rfl
@[simp ↓] theorem wBi_sorted_ref_r {Q : Ev → Prop} : rho (wBi .sorted [.v (.ref n)] s Q) = rho (wGet s n fun ds => wSrt ds fun l => Q (.t l)) := congrArg rho (wBi_sorted_ref)
theorem wBi_all_t {bs : List Bool} {Q : Ev → Prop} (h : blsOf ds = some bs) : wBi .all [.t ds] s Q = Q (.v (.bl (bs.all id))) := by
  show wOf ((blsOf ds).map fun bs => Ev.v (.bl (bs.all id))) Q = _
  rw [h]; rfl
theorem wBi_int_int {Q : Ev → Prop} : wBi .int [.v (.int i)] s Q = Q (.v (.int i)) := rfl
@[simp ↓] theorem wBi_int_int_r {Q : Ev → Prop} : rho (wBi .int [.v (.int i)] s Q) = rho (Q (.v (.int i))) := congrArg rho (wBi_int_int)
theorem wBi_int_bl {k : Bool} {Q : Ev → Prop} : wBi .int [.v (.bl k)] s Q = Q (.v (.int (if k = true then 1 else 0))) := rfl
@[simp ↓] theorem wBi_int_bl_r {k : Bool} {Q : Ev → Prop} : rho (wBi .int [.v (.bl k)] s Q) = rho (Q (.v (.int (if k = true then 1 else 0)))) := congrArg rho (wBi_int_bl)
theorem wBi_max {Q : Ev → Prop} : wBi .max [.v (.int i), .v (.int j)] s Q = Q (.v (.int (max i j))) := by
  show Q (.v (.int (if j > i then j else i))) = _
  rw [show (if j > i then j else i) = max i j by omega]
@[simp ↓] theorem wBi_max_r {Q : Ev → Prop} : rho (wBi .max [.v (.int i), .v (.int j)] s Q) = rho (Q (.v (.int (max i j)))) := congrArg rho (wBi_max)
theorem wBi_min {Q : Ev → Prop} : wBi .min [.v (.int i), .v (.int j)] s Q = Q (.v (.int (min i j))) := by
  show Q (.v (.int (if j < i then j else i))) = _
  rw [show (if j < i then j else i) = min i j by omega]
@[simp ↓] theorem wBi_min_r {Q : Ev → Prop} : rho (wBi .min [.v (.int i), .v (.int j)] s Q) = rho (Q (.v (.int (min i j)))) := congrArg rho (wBi_min)
theorem wBi_dm {Q : Ev → Prop} (h : 0 < j ∧ j < 1073741824) : wBi .divmod [.v (.int i), .v (.int j)] s Q = Q (.v (.tup [.int (i / j), .int (i % j)])) := by
  show wOf (if 0 < j ∧ j < 1073741824 then _ else _) Q = _
  rw [if_pos h]; rfl
@[simp ↓] theorem wBi_dm_r {Q : Ev → Prop} (h : 0 < j ∧ j < 1073741824) : rho (wBi .divmod [.v (.int i), .v (.int j)] s Q) = rho (Q (.v (.tup [.int (i / j), .int (i % j)]))) := congrArg rho (wBi_dm h)
theorem wBi_list_t {Q : Ev → Prop} : wBi .list [.t ds] s Q = Q (.t ds) := rfl
@[simp ↓] theorem wBi_list_t_r {Q : Ev → Prop} : rho (wBi .list [.t ds] s Q) = rho (Q (.t ds)) := congrArg rho (wBi_list_t)
theorem wBi_list_tup {Q : Ev → Prop} : wBi .list [.v (.tup ds)] s Q = Q (.t ds) := rfl
@[simp ↓] theorem wBi_list_tup_r {Q : Ev → Prop} : rho (wBi .list [.v (.tup ds)] s Q) = rho (Q (.t ds)) := congrArg rho (wBi_list_tup)
theorem wBi_list_ro {Q : Ev → Prop} : wBi .list [.v (.ro ds)] s Q = Q (.t ds) := rfl
@[simp ↓] theorem wBi_list_ro_r {Q : Ev → Prop} : rho (wBi .list [.v (.ro ds)] s Q) = rho (Q (.t ds)) := congrArg rho (wBi_list_ro)
def wCon (c : Cell) (Q : List D → Prop) : Prop := match c with
  | .lst ds => Q ds
  | .dic _ kvs => Q (kvs.map fun kv => unkey kv.1)
  | _ => False
theorem wCon_lst {Q : List D → Prop} : wCon (.lst ds) Q = Q ds := rfl
@[simp ↓] theorem wCon_lst_r {Q : List D → Prop} : rho (wCon (.lst ds) Q) = rho (Q ds) := congrArg rho (wCon_lst)
theorem wCon_dic {b : Bool} {kvs : List (L2.Key × D)} {Q : List D → Prop} : wCon (.dic b kvs) Q = Q (kvs.map fun kv => unkey kv.1) := rfl
@[simp ↓] theorem wCon_dic_r {b : Bool} {kvs : List (L2.Key × D)} {Q : List D → Prop} : rho (wCon (.dic b kvs) Q) = rho (Q (kvs.map fun kv => unkey kv.1)) := congrArg rho (wCon_dic)
theorem wBi_list_ref {Q : Ev → Prop} : wBi .list [.v (.ref n)] s Q = wCl s n fun c => wCon c fun ds => Q (.t ds) := by
  have e : bList [.v (.ref n)] s = (match dicE s (.v (.ref n)) with | some kvs => some (.t (kvs.map fun kv => unkey kv.1)) | none => (items s (.v (.ref n))).map .t) := rfl
  have e1 : dicE s (.v (.ref n)) = (match s[n]? with | some (.dic _ kvs) => some kvs | _ => none) := rfl
  have e2 : items s (.v (.ref n)) = (match s[n]? with | some (.lst ds) => some ds | _ => none) := rfl
  show wOf (bList [.v (.ref n)] s) Q = _
  unfold wCl
  rw [e, e1, e2]
  cases s[n]? with
  | none => rfl
  | some cc => cases cc <;> rfl

@[simp ↓] theorem wBi_list_ref_r {Q : Ev → Prop} : rho (wBi .list [.v (.ref n)] s Q) = rho (wCl s n fun c => wCon c fun ds => Q (.t ds)) := congrArg rho (wBi_list_ref)
theorem wC_ltS {x y : Str} {Q : Bool → Prop} : wC .lt (.v (.str x)) (.v (.str y)) s Q = Q (ltS x y) := rfl
@[simp ↓] theorem wC_ltS_r {x y : Str} {Q : Bool → Prop} : rho (wC .lt (.v (.str x)) (.v (.str y)) s Q) = rho (Q (ltS x y)) := congrArg rho (wC_ltS)
def wIn2 (x y : Ev) (s : Store) (Q : Bool → Prop) : Prop := wOf (inD x y s) Q
theorem wC_in {x y : Ev} {Q : Bool → Prop} : wC .isin x y s Q = wIn2 x y s Q := rfl
@[simp ↓] theorem wC_in_r {x y : Ev} {Q : Bool → Prop} : rho (wC .isin x y s Q) = rho (wIn2 x y s Q) := congrArg rho (wC_in)
theorem wC_notin {x y : Ev} {Q : Bool → Prop} : wC .notin x y s Q = wIn2 x y s fun k => Q (!k) := by
  show wOf ((inD x y s).map not) Q = wOf (inD x y s) _
  cases inD x y s <;> rfl
@[simp ↓] theorem wC_notin_r {x y : Ev} {Q : Bool → Prop} : rho (wC .notin x y s Q) = rho (wIn2 x y s fun k => Q (!k)) := congrArg rho (wC_notin)
theorem wIn2_sign {c : Nat} {z : Str} {Q : Bool → Prop} : wIn2 (.v (.str ⟨#[c]⟩)) (.v (.str z)) s Q = Q (decide (c ∈ z.cps.toList)) := rfl
@[simp ↓] theorem wIn2_sign_r {c : Nat} {z : Str} {Q : Bool → Prop} : rho (wIn2 (.v (.str ⟨#[c]⟩)) (.v (.str z)) s Q) = rho (Q (decide (c ∈ z.cps.toList))) := congrArg rho (wIn2_sign)
theorem wIn2_items {y : Ev} {Q : Bool → Prop} {l : List D} (hn : ∀ x z, d = .str x → y ≠ .v (.str z)) (hd : dicE s y = none) (hi : items s y = some l) (hf : (flatD d && l.all flatD) = true) : wIn2 (.v d) y s Q = Q (l.any fun z => eqB 0 s z d) := by
  have e : inD (.v d) y s = memD s y d l := by
    unfold inD
    split
    · rename_i a z h1; cases h1; exact absurd rfl (hn a z rfl)
    · rename_i d2 h1 _; cases h1; simp only [hd, hi]
    · rename_i h1 h2; exact absurd rfl (h1 d)
  unfold wIn2
  rw [e]
  unfold memD
  rw [if_pos hf]; rfl
theorem wIn2_tup {Q : Bool → Prop} (h : (flatD d && ds.all flatD) = true) : wIn2 (.v d) (.v (.tup ds)) s Q = Q (ds.any fun z => eqB 0 s z d) := wIn2_items (fun _ _ _ h => by cases h) rfl rfl h
@[simp ↓] theorem wIn2_tup_r {Q : Bool → Prop} (h : (flatD d && ds.all flatD) = true) : rho (wIn2 (.v d) (.v (.tup ds)) s Q) = rho (Q (ds.any fun z => eqB 0 s z d)) := congrArg rho (wIn2_tup h)
theorem wIn2_t {Q : Bool → Prop} (h : (flatD d && ds.all flatD) = true) : wIn2 (.v d) (.t ds) s Q = Q (ds.any fun z => eqB 0 s z d) := wIn2_items (fun _ _ _ h => by cases h) rfl rfl h
@[simp ↓] theorem wIn2_t_r {Q : Bool → Prop} (h : (flatD d && ds.all flatD) = true) : rho (wIn2 (.v d) (.t ds) s Q) = rho (Q (ds.any fun z => eqB 0 s z d)) := congrArg rho (wIn2_t h)
theorem wIn2_lst {Q : Bool → Prop} (h : s[n]? = some (.lst ds)) (hf : (flatD d && ds.all flatD) = true) : wIn2 (.v d) (.v (.ref n)) s Q = Q (ds.any fun z => eqB 0 s z d) := wIn2_items (fun _ _ _ h => by cases h) (by show (match s[n]? with | some (.dic _ kvs) => some kvs | _ => none) = none; rw [h]) (itRef h) hf
theorem wIn2_dic {k : L2.Key} {b : Bool} {kvs : List (L2.Key × D)} {Q : Bool → Prop} (h : s[n]? = some (.dic b kvs)) (hk : dkey d = some k) : wIn2 (.v d) (.v (.ref n)) s Q = Q (dGet kvs k).isSome := by
  have ed : dicE s (.v (.ref n)) = some kvs := by show (match s[n]? with | some (.dic _ kvs) => some kvs | _ => none) = some kvs; rw [h]
  have e : inD (.v d) (.v (.ref n)) s = some (dGet kvs k).isSome := by
    unfold inD
    cases d <;> first | (cases hk; done) | (cases hk; simp only [ed]; rfl)
  unfold wIn2; rw [e]; rfl

theorem wT_and {Q : Bool → Store → Prop} : wT P go (.and a b) env st Q X = wT P go a env st (fun k s => if k = true then wT P go b env s Q X else Q false s) X := by
  unfold wT; conv => lhs; unfold evT
  rw [RX_bind]; congr; funext k s; cases k <;> rfl
@[simp ↓] theorem wT_and_r {Q : Bool → Store → Prop} : rho (wT P go (.and a b) env st Q X) = rho (wT P go a env st (fun k s => if k = true then wT P go b env s Q X else Q false s) X) := congrArg rho (wT_and)
theorem wT_or {Q : Bool → Store → Prop} : wT P go (.or a b) env st Q X = wT P go a env st (fun k s => if k = true then Q true s else wT P go b env s Q X) X := by
  unfold wT; conv => lhs; unfold evT
  rw [RX_bind]; congr; funext k s; cases k <;> rfl
@[simp ↓] theorem wT_or_r {Q : Bool → Store → Prop} : rho (wT P go (.or a b) env st Q X) = rho (wT P go a env st (fun k s => if k = true then Q true s else wT P go b env s Q X) X) := congrArg rho (wT_or)
theorem wT_not {Q : Bool → Store → Prop} : wT P go (.not a) env st Q X = wT P go a env st (fun k s => Q (!k) s) X := by
  unfold wT; conv => lhs; unfold evT
  rw [RX_bind]; rfl
@[simp ↓] theorem wT_not_r {Q : Bool → Store → Prop} : rho (wT P go (.not a) env st Q X) = rho (wT P go a env st (fun k s => Q (!k) s) X) := congrArg rho (wT_not)
theorem wT_dct {es2 : Es} {Q : Bool → Store → Prop} : wT P go (.dct es es2) env st Q X = wE P go (.dct es es2) env st (fun x s => wTr x s fun k => Q k s) X := by
  unfold wT wE; conv => lhs; unfold evT
  rw [RX_bind]; congr; funext x s; unfold wTr; cases truD x s <;> rfl
@[simp ↓] theorem wT_dct_r {es2 : Es} {Q : Bool → Store → Prop} : rho (wT P go (.dct es es2) env st Q X) = rho (wE P go (.dct es es2) env st (fun x s => wTr x s fun k => Q k s) X) := congrArg rho (wT_dct)
theorem wT_dcp {Q : Bool → Store → Prop} : wT P go (.dcp a) env st Q X = wE P go (.dcp a) env st (fun x s => wTr x s fun k => Q k s) X := by
  unfold wT wE; conv => lhs; unfold evT
  rw [RX_bind]; congr; funext x s; unfold wTr; cases truD x s <;> rfl
@[simp ↓] theorem wT_dcp_r {Q : Bool → Store → Prop} : rho (wT P go (.dcp a) env st Q X) = rho (wE P go (.dcp a) env st (fun x s => wTr x s fun k => Q k s) X) := congrArg rho (wT_dcp)
theorem wT_int {Q : Bool → Store → Prop} : wT P go (.int i) env st Q X = wE P go (.int i) env st (fun x s => wTr x s fun k => Q k s) X := by
  unfold wT wE; conv => lhs; unfold evT
  rw [RX_bind]; congr; funext x s; unfold wTr; cases truD x s <;> rfl
@[simp ↓] theorem wT_int_r {Q : Bool → Store → Prop} : rho (wT P go (.int i) env st Q X) = rho (wE P go (.int i) env st (fun x s => wTr x s fun k => Q k s) X) := congrArg rho (wT_int)
theorem wT_bl {k : Bool} {Q : Bool → Store → Prop} : wT P go (.bl k) env st Q X = wE P go (.bl k) env st (fun x s => wTr x s fun k => Q k s) X := by
  unfold wT wE; conv => lhs; unfold evT
  rw [RX_bind]; congr; funext x s; unfold wTr; cases truD x s <;> rfl
@[simp ↓] theorem wT_bl_r {k : Bool} {Q : Bool → Store → Prop} : rho (wT P go (.bl k) env st Q X) = rho (wE P go (.bl k) env st (fun x s => wTr x s fun k => Q k s) X) := congrArg rho (wT_bl)
theorem wT_non {Q : Bool → Store → Prop} : wT P go .non env st Q X = wE P go .non env st (fun x s => wTr x s fun k => Q k s) X := by
  unfold wT wE; conv => lhs; unfold evT
  rw [RX_bind]; congr; funext x s; unfold wTr; cases truD x s <;> rfl
@[simp ↓] theorem wT_non_r {Q : Bool → Store → Prop} : rho (wT P go .non env st Q X) = rho (wE P go .non env st (fun x s => wTr x s fun k => Q k s) X) := congrArg rho (wT_non)
theorem wT_str {x : Str} {Q : Bool → Store → Prop} : wT P go (.str x) env st Q X = wE P go (.str x) env st (fun x s => wTr x s fun k => Q k s) X := by
  unfold wT wE; conv => lhs; unfold evT
  rw [RX_bind]; congr; funext x s; unfold wTr; cases truD x s <;> rfl
@[simp ↓] theorem wT_str_r {x : Str} {Q : Bool → Store → Prop} : rho (wT P go (.str x) env st Q X) = rho (wE P go (.str x) env st (fun x s => wTr x s fun k => Q k s) X) := congrArg rho (wT_str)
theorem wT_loc {Q : Bool → Store → Prop} : wT P go (.loc n) env st Q X = wE P go (.loc n) env st (fun x s => wTr x s fun k => Q k s) X := by
  unfold wT wE; conv => lhs; unfold evT
  rw [RX_bind]; congr; funext x s; unfold wTr; cases truD x s <;> rfl
@[simp ↓] theorem wT_loc_r {Q : Bool → Store → Prop} : rho (wT P go (.loc n) env st Q X) = rho (wE P go (.loc n) env st (fun x s => wTr x s fun k => Q k s) X) := congrArg rho (wT_loc)
theorem wT_glo {x : Str} {Q : Bool → Store → Prop} : wT P go (.glo x) env st Q X = wE P go (.glo x) env st (fun x s => wTr x s fun k => Q k s) X := by
  unfold wT wE; conv => lhs; unfold evT
  rw [RX_bind]; congr; funext x s; unfold wTr; cases truD x s <;> rfl
@[simp ↓] theorem wT_glo_r {x : Str} {Q : Bool → Store → Prop} : rho (wT P go (.glo x) env st Q X) = rho (wE P go (.glo x) env st (fun x s => wTr x s fun k => Q k s) X) := congrArg rho (wT_glo)
theorem wT_bin {op : BOp} {Q : Bool → Store → Prop} : wT P go (.bin op a b) env st Q X = wE P go (.bin op a b) env st (fun x s => wTr x s fun k => Q k s) X := by
  unfold wT wE; conv => lhs; unfold evT
  rw [RX_bind]; congr; funext x s; unfold wTr; cases truD x s <;> rfl
@[simp ↓] theorem wT_bin_r {op : BOp} {Q : Bool → Store → Prop} : rho (wT P go (.bin op a b) env st Q X) = rho (wE P go (.bin op a b) env st (fun x s => wTr x s fun k => Q k s) X) := congrArg rho (wT_bin)
theorem wT_neg {Q : Bool → Store → Prop} : wT P go (.neg a) env st Q X = wE P go (.neg a) env st (fun x s => wTr x s fun k => Q k s) X := by
  unfold wT wE; conv => lhs; unfold evT
  rw [RX_bind]; congr; funext x s; unfold wTr; cases truD x s <;> rfl
@[simp ↓] theorem wT_neg_r {Q : Bool → Store → Prop} : rho (wT P go (.neg a) env st Q X) = rho (wE P go (.neg a) env st (fun x s => wTr x s fun k => Q k s) X) := congrArg rho (wT_neg)
theorem wT_cmp {op : COp} {Q : Bool → Store → Prop} : wT P go (.cmp op a b) env st Q X = wE P go (.cmp op a b) env st (fun x s => wTr x s fun k => Q k s) X := by
  unfold wT wE; conv => lhs; unfold evT
  rw [RX_bind]; congr; funext x s; unfold wTr; cases truD x s <;> rfl
@[simp ↓] theorem wT_cmp_r {op : COp} {Q : Bool → Store → Prop} : rho (wT P go (.cmp op a b) env st Q X) = rho (wE P go (.cmp op a b) env st (fun x s => wTr x s fun k => Q k s) X) := congrArg rho (wT_cmp)
theorem wT_chain {o1 o2 : COp} {Q : Bool → Store → Prop} : wT P go (.chain o1 o2 a b c) env st Q X = wE P go (.chain o1 o2 a b c) env st (fun x s => wTr x s fun k => Q k s) X := by
  unfold wT wE; conv => lhs; unfold evT
  rw [RX_bind]; congr; funext x s; unfold wTr; cases truD x s <;> rfl
@[simp ↓] theorem wT_chain_r {o1 o2 : COp} {Q : Bool → Store → Prop} : rho (wT P go (.chain o1 o2 a b c) env st Q X) = rho (wE P go (.chain o1 o2 a b c) env st (fun x s => wTr x s fun k => Q k s) X) := congrArg rho (wT_chain)
theorem wT_tup {Q : Bool → Store → Prop} : wT P go (.tup es) env st Q X = wE P go (.tup es) env st (fun x s => wTr x s fun k => Q k s) X := by
  unfold wT wE; conv => lhs; unfold evT
  rw [RX_bind]; congr; funext x s; unfold wTr; cases truD x s <;> rfl
@[simp ↓] theorem wT_tup_r {Q : Bool → Store → Prop} : rho (wT P go (.tup es) env st Q X) = rho (wE P go (.tup es) env st (fun x s => wTr x s fun k => Q k s) X) := congrArg rho (wT_tup)
theorem wT_lst {Q : Bool → Store → Prop} : wT P go (.lst es) env st Q X = wE P go (.lst es) env st (fun x s => wTr x s fun k => Q k s) X := by
  unfold wT wE; conv => lhs; unfold evT
  rw [RX_bind]; congr; funext x s; unfold wTr; cases truD x s <;> rfl
@[simp ↓] theorem wT_lst_r {Q : Bool → Store → Prop} : rho (wT P go (.lst es) env st Q X) = rho (wE P go (.lst es) env st (fun x s => wTr x s fun k => Q k s) X) := congrArg rho (wT_lst)
theorem wT_idx {Q : Bool → Store → Prop} : wT P go (.idx a b) env st Q X = wE P go (.idx a b) env st (fun x s => wTr x s fun k => Q k s) X := by
  unfold wT wE; conv => lhs; unfold evT
  rw [RX_bind]; congr; funext x s; unfold wTr; cases truD x s <;> rfl
@[simp ↓] theorem wT_idx_r {Q : Bool → Store → Prop} : rho (wT P go (.idx a b) env st Q X) = rho (wE P go (.idx a b) env st (fun x s => wTr x s fun k => Q k s) X) := congrArg rho (wT_idx)
theorem wT_sl {lo hi : Option E} {Q : Bool → Store → Prop} : wT P go (.sl a lo hi) env st Q X = wE P go (.sl a lo hi) env st (fun x s => wTr x s fun k => Q k s) X := by
  unfold wT wE; conv => lhs; unfold evT
  rw [RX_bind]; congr; funext x s; unfold wTr; cases truD x s <;> rfl
@[simp ↓] theorem wT_sl_r {lo hi : Option E} {Q : Bool → Store → Prop} : rho (wT P go (.sl a lo hi) env st Q X) = rho (wE P go (.sl a lo hi) env st (fun x s => wTr x s fun k => Q k s) X) := congrArg rho (wT_sl)
theorem wT_bi {k : BI} {Q : Bool → Store → Prop} : wT P go (.bi k es) env st Q X = wE P go (.bi k es) env st (fun x s => wTr x s fun k => Q k s) X := by
  unfold wT wE; conv => lhs; unfold evT
  rw [RX_bind]; congr; funext x s; unfold wTr; cases truD x s <;> rfl
@[simp ↓] theorem wT_bi_r {k : BI} {Q : Bool → Store → Prop} : rho (wT P go (.bi k es) env st Q X) = rho (wE P go (.bi k es) env st (fun x s => wTr x s fun k => Q k s) X) := congrArg rho (wT_bi)
theorem wT_isi {ts : List Ty} {o : Bool} {Q : Bool → Store → Prop} : wT P go (.isi a ts o) env st Q X = wE P go (.isi a ts o) env st (fun x s => wTr x s fun k => Q k s) X := by
  unfold wT wE; conv => lhs; unfold evT
  rw [RX_bind]; congr; funext x s; unfold wTr; cases truD x s <;> rfl
@[simp ↓] theorem wT_isi_r {ts : List Ty} {o : Bool} {Q : Bool → Store → Prop} : rho (wT P go (.isi a ts o) env st Q X) = rho (wE P go (.isi a ts o) env st (fun x s => wTr x s fun k => Q k s) X) := congrArg rho (wT_isi)
theorem wT_call {x : Str} {Q : Bool → Store → Prop} : wT P go (.call x es) env st Q X = wE P go (.call x es) env st (fun x s => wTr x s fun k => Q k s) X := by
  unfold wT wE; conv => lhs; unfold evT
  rw [RX_bind]; congr; funext x s; unfold wTr; cases truD x s <;> rfl
@[simp ↓] theorem wT_call_r {x : Str} {Q : Bool → Store → Prop} : rho (wT P go (.call x es) env st Q X) = rho (wE P go (.call x es) env st (fun x s => wTr x s fun k => Q k s) X) := congrArg rho (wT_call)
theorem wT_mk {x : Str} {Q : Bool → Store → Prop} : wT P go (.mk x es) env st Q X = wE P go (.mk x es) env st (fun x s => wTr x s fun k => Q k s) X := by
  unfold wT wE; conv => lhs; unfold evT
  rw [RX_bind]; congr; funext x s; unfold wTr; cases truD x s <;> rfl
@[simp ↓] theorem wT_mk_r {x : Str} {Q : Bool → Store → Prop} : rho (wT P go (.mk x es) env st Q X) = rho (wE P go (.mk x es) env st (fun x s => wTr x s fun k => Q k s) X) := congrArg rho (wT_mk)
theorem wT_bm {m : BM} {Q : Bool → Store → Prop} : wT P go (.bm m a es) env st Q X = wE P go (.bm m a es) env st (fun x s => wTr x s fun k => Q k s) X := by
  unfold wT wE; conv => lhs; unfold evT
  rw [RX_bind]; congr; funext x s; unfold wTr; cases truD x s <;> rfl
@[simp ↓] theorem wT_bm_r {m : BM} {Q : Bool → Store → Prop} : rho (wT P go (.bm m a es) env st Q X) = rho (wE P go (.bm m a es) env st (fun x s => wTr x s fun k => Q k s) X) := congrArg rho (wT_bm)
theorem wT_meth {x : Str} {Q : Bool → Store → Prop} : wT P go (.meth a x es) env st Q X = wE P go (.meth a x es) env st (fun x s => wTr x s fun k => Q k s) X := by
  unfold wT wE; conv => lhs; unfold evT
  rw [RX_bind]; congr; funext x s; unfold wTr; cases truD x s <;> rfl
@[simp ↓] theorem wT_meth_r {x : Str} {Q : Bool → Store → Prop} : rho (wT P go (.meth a x es) env st Q X) = rho (wE P go (.meth a x es) env st (fun x s => wTr x s fun k => Q k s) X) := congrArg rho (wT_meth)
theorem wT_fld {x : Str} {Q : Bool → Store → Prop} : wT P go (.fld a x) env st Q X = wE P go (.fld a x) env st (fun x s => wTr x s fun k => Q k s) X := by
  unfold wT wE; conv => lhs; unfold evT
  rw [RX_bind]; congr; funext x s; unfold wTr; cases truD x s <;> rfl
@[simp ↓] theorem wT_fld_r {x : Str} {Q : Bool → Store → Prop} : rho (wT P go (.fld a x) env st Q X) = rho (wE P go (.fld a x) env st (fun x s => wTr x s fun k => Q k s) X) := congrArg rho (wT_fld)
theorem wT_lc {g : List Nat} {o : Bool} {it : Wk} {oc : Option E} {Q : Bool → Store → Prop} : wT P go (.lc g o it oc a) env st Q X = wE P go (.lc g o it oc a) env st (fun x s => wTr x s fun k => Q k s) X := by
  unfold wT wE; conv => lhs; unfold evT
  rw [RX_bind]; congr; funext x s; unfold wTr; cases truD x s <;> rfl
@[simp ↓] theorem wT_lc_r {g : List Nat} {o : Bool} {it : Wk} {oc : Option E} {Q : Bool → Store → Prop} : rho (wT P go (.lc g o it oc a) env st Q X) = rho (wE P go (.lc g o it oc a) env st (fun x s => wTr x s fun k => Q k s) X) := congrArg rho (wT_lc)
theorem wS_nop : wS P go .nop env st N T XX = N env st := rfl
@[simp ↓] theorem wS_nop_r : rho (wS P go .nop env st N T XX) = rho (N env st) := congrArg rho (wS_nop)
theorem wS_seq : wS P go (.seq p q) env st N T XX = wS P go p env st (fun e s => wS P go q e s N T XX) T XX := by
  unfold wS; conv => lhs; unfold exS
  rw [OX_bind]
@[simp ↓] theorem wS_seq_r : rho (wS P go (.seq p q) env st N T XX) = rho (wS P go p env st (fun e s => wS P go q e s N T XX) T XX) := congrArg rho (wS_seq)
theorem wS_expr : wS P go (.expr e) env st N T XX = wE P go e env st (fun _ s => N env s) (fun c fs s => XX c fs env s) := by
  unfold wS wE; conv => lhs; unfold exS
  rw [OX_out]; rfl
@[simp ↓] theorem wS_expr_r : rho (wS P go (.expr e) env st N T XX) = rho (wE P go e env st (fun _ s => N env s) (fun c fs s => XX c fs env s)) := congrArg rho (wS_expr)
theorem wS_ret : wS P go (.ret e) env st N T XX = wE P go e env st T (fun c fs s => XX c fs env s) := by
  unfold wS wE; conv => lhs; unfold exS
  rw [OX_out]; rfl
@[simp ↓] theorem wS_ret_r : rho (wS P go (.ret e) env st N T XX) = rho (wE P go e env st T (fun c fs s => XX c fs env s)) := congrArg rho (wS_ret)
theorem wS_retN : wS P go .retN env st N T XX = T (.v .non) st := rfl
@[simp ↓] theorem wS_retN_r : rho (wS P go .retN env st N T XX) = rho (T (.v .non) st) := congrArg rho (wS_retN)
theorem wS_ifs : wS P go (.ifs e p q) env st N T XX = wT P go e env st (fun k s => if k = true then wS P go p env s N T XX else wS P go q env s N T XX) (fun c fs s => XX c fs env s) := by
  unfold wS wT; conv => lhs; unfold exS
  rw [OX_out]; congr; funext k s; cases k <;> rfl
@[simp ↓] theorem wS_ifs_r : rho (wS P go (.ifs e p q) env st N T XX) = rho (wT P go e env st (fun k s => if k = true then wS P go p env s N T XX else wS P go q env s N T XX) (fun c fs s => XX c fs env s)) := congrArg rho (wS_ifs)
def wSt (c : Cell) (k : D) (d : D) (Q : Cell → Prop) : Prop := match c, k with
  | .lst ds, .int i => wOf (L2.ixN ds.length i) fun j => Q (.lst (ds.set j d))
  | .dic false kvs, k => wOf (dkey k) fun k => kvs.length < lim ∧ Q (.dic false (dPut kvs k d))
  | _, _ => False
theorem wSt_lst {Q : Cell → Prop} : wSt (.lst ds) (.int i) d Q = wOf (L2.ixN ds.length i) fun j => Q (.lst (ds.set j d)) := rfl
@[simp ↓] theorem wSt_lst_r {Q : Cell → Prop} : rho (wSt (.lst ds) (.int i) d Q) = rho (wOf (L2.ixN ds.length i) fun j => Q (.lst (ds.set j d))) := congrArg rho (wSt_lst)
theorem wSt_dicI {kvs : List (L2.Key × D)} {Q : Cell → Prop} : wSt (.dic false kvs) (.int i) d Q = (kvs.length < lim ∧ Q (.dic false (dPut kvs (.inl i) d))) := rfl
@[simp ↓] theorem wSt_dicI_r {kvs : List (L2.Key × D)} {Q : Cell → Prop} : rho (wSt (.dic false kvs) (.int i) d Q) = rho ((kvs.length < lim ∧ Q (.dic false (dPut kvs (.inl i) d)))) := congrArg rho (wSt_dicI)
theorem wSt_dicS {x : Str} {kvs : List (L2.Key × D)} {Q : Cell → Prop} : wSt (.dic false kvs) (.str x) d Q = (kvs.length < lim ∧ Q (.dic false (dPut kvs (.inr x) d))) := rfl
@[simp ↓] theorem wSt_dicS_r {x : Str} {kvs : List (L2.Key × D)} {Q : Cell → Prop} : rho (wSt (.dic false kvs) (.str x) d Q) = rho ((kvs.length < lim ∧ Q (.dic false (dPut kvs (.inr x) d)))) := congrArg rho (wSt_dicS)
theorem wS_setI : wS P go (.setI a b e) env st N T XX = wE P go e env st (fun x s => wM x s fun v s1 => wE P go a env s1 (fun y s2 => wE P go b env s2 (fun z s3 => wRef y fun n => wVl z fun k => wCl s3 n fun c => wSt c k v fun c' => N env (s3.set n c')) (fun c fs s => XX c fs env s)) (fun c fs s => XX c fs env s)) (fun c fs s => XX c fs env s) := by
  unfold wS wE; conv => lhs; unfold exS
  rw [OX_out]; congr; funext x s
  show OX (R.out _ env _) N T XX = _
  rw [OX_out]; unfold wM; congr; funext y s2
  rw [OX_out]; congr; funext z s3
  cases y with
  | t l => rfl
  | v d => cases d with
    | ref n => cases z with
      | t l => rfl
      | v k =>
        show OX (match s3[n]? with | some (.lst ds) => (match k with | .int k => (match L2.ixN ds.length k with | some j => .nx env (s3.set n (.lst (ds.set j (mat x s).1))) | none => .stuck) | _ => .stuck) | some (.dic false kvs) => (match dkey k with | some k => if kvs.length < lim then .nx env (s3.set n (.dic false (dPut kvs k (mat x s).1))) else .stuck | none => .stuck) | _ => .stuck) N T XX = (match s3[n]? with | some c => wSt c k (mat x s).1 _ | _ => False)
        cases s3[n]? with
        | none => rfl
        | some cc => cases cc with
          | lst l => cases k with
            | int i => simp only [wSt]; cases L2.ixN l.length i <;> rfl
            | _ => rfl
          | ins c fs => rfl
          | dic b kvs => cases b with
            | true => rfl
            | false =>
              show OX (match dkey k with | some k => if kvs.length < lim then .nx env (s3.set n (.dic false (dPut kvs k (mat x s).1))) else .stuck | none => .stuck) N T XX = wOf (dkey k) _
              cases dkey k with
              | none => rfl
              | some kk =>
                simp only [wOf]
                by_cases h : kvs.length < lim
                · rw [if_pos h]; simp only [h, true_and]; rfl
                · rw [if_neg h]; simp only [h, false_and]; rfl
    | _ => cases z <;> rfl
@[simp ↓] theorem wS_setI_r : rho (wS P go (.setI a b e) env st N T XX) = rho (wE P go e env st (fun x s => wM x s fun v s1 => wE P go a env s1 (fun y s2 => wE P go b env s2 (fun z s3 => wRef y fun n => wVl z fun k => wCl s3 n fun c => wSt c k v fun c' => N env (s3.set n c')) (fun c fs s => XX c fs env s)) (fun c fs s => XX c fs env s)) (fun c fs s => XX c fs env s)) := congrArg rho (wS_setI)
theorem wS_setF {f : Str} : wS P go (.setF a f e) env st N T XX = wE P go e env st (fun x s => wM x s fun v s1 => wE P go a env s1 (fun y s2 => wRef y fun n => wIns s2 n fun c fs => (fs.length < 1000 ∧ flds.contains (c, f) = true) ∧ N env (s2.set n (.ins c (putD f v fs)))) (fun c fs s => XX c fs env s)) (fun c fs s => XX c fs env s) := by
  unfold wS wE; conv => lhs; unfold exS
  rw [OX_out]; congr; funext x s
  show OX (R.out _ env _) N T XX = _
  rw [OX_out]; unfold wM; congr; funext y s2
  cases y with
  | t l => rfl
  | v d => cases d with
    | ref n =>
      show OX (match s2[n]? with | some (.ins c fs) => if fs.length < 1000 ∧ flds.contains (c, f) = true then .nx env (s2.set n (.ins c (putD f (mat x s).1 fs))) else .stuck | _ => .stuck) N T XX = (match s2[n]? with | some (.ins c fs) => _ | _ => False)
      cases s2[n]? with
      | none => rfl
      | some cc => cases cc with
        | ins c fs =>
          simp only
          by_cases h : fs.length < 1000 ∧ flds.contains (c, f) = true
          · rw [if_pos h]; exact propext ⟨fun z => ⟨h, z⟩, fun z => z.2⟩
          · rw [if_neg h]; exact propext ⟨fun z => z.elim, fun z => h z.1⟩
        | _ => rfl
    | _ => rfl
@[simp ↓] theorem wS_setF_r {f : Str} : rho (wS P go (.setF a f e) env st N T XX) = rho (wE P go e env st (fun x s => wM x s fun v s1 => wE P go a env s1 (fun y s2 => wRef y fun n => wIns s2 n fun c fs => (fs.length < 1000 ∧ flds.contains (c, f) = true) ∧ N env (s2.set n (.ins c (putD f v fs)))) (fun c fs s => XX c fs env s)) (fun c fs s => XX c fs env s)) := congrArg rho (wS_setF)
def wSl2 (env : Env) (k : Nat) (Q : D → Prop) : Prop := match env[k]? with
  | some (some d) => Q d
  | _ => False
theorem wS_augA {k : Nat} : wS P go (.aug k .add e) env st N T XX = wSl2 env k fun d => wE P go e env st (fun x s => wIn (.v d) fun i => wIn x fun j => N (env.set k (some (.int (i + j)))) s) (fun c fs s => XX c fs env s) := by
  unfold wS wE wSl2; conv => lhs; unfold exS
  cases env[k]? with
  | none => rfl
  | some o => cases o with
    | none => rfl
    | some d =>
      simp only
      rw [OX_out]; congr; funext x s
      cases d <;> first | rfl | (cases x with
        | t l => rfl
        | v d => cases d <;> rfl)
@[simp ↓] theorem wS_augA_r {k : Nat} : rho (wS P go (.aug k .add e) env st N T XX) = rho (wSl2 env k fun d => wE P go e env st (fun x s => wIn (.v d) fun i => wIn x fun j => N (env.set k (some (.int (i + j)))) s) (fun c fs s => XX c fs env s)) := congrArg rho (wS_augA)
theorem wS_augS {k : Nat} : wS P go (.aug k .sub e) env st N T XX = wSl2 env k fun d => wE P go e env st (fun x s => wIn (.v d) fun i => wIn x fun j => N (env.set k (some (.int (i - j)))) s) (fun c fs s => XX c fs env s) := by
  unfold wS wE wSl2; conv => lhs; unfold exS
  cases env[k]? with
  | none => rfl
  | some o => cases o with
    | none => rfl
    | some d =>
      simp only
      rw [OX_out]; congr; funext x s
      cases d <;> first | rfl | (cases x with
        | t l => rfl
        | v d => cases d <;> rfl)
@[simp ↓] theorem wS_augS_r {k : Nat} : rho (wS P go (.aug k .sub e) env st N T XX) = rho (wSl2 env k fun d => wE P go e env st (fun x s => wIn (.v d) fun i => wIn x fun j => N (env.set k (some (.int (i - j)))) s) (fun c fs s => XX c fs env s)) := congrArg rho (wS_augS)
theorem wS_raise {k : Str} (h : P.excs.contains k = true) : wS P go (.raiseT k) env st N T XX = XX k [] env st := by
  show OX (if P.excs.contains k then _ else _) N T XX = _
  rw [if_pos h]; rfl
def wBd (g : List Nat) (one : Bool) (d : D) (env : Env) (Q : Env → Prop) : Prop := wOf (bindG g one d env) Q
def wVal (x : Ev) (Q : D → Prop) : Prop := match x with
  | .v d => Q d
  | .t _ => False
theorem wVal_v {Q : D → Prop} : wVal (.v d) Q = Q d := rfl
@[simp ↓] theorem wVal_v_r {Q : D → Prop} : rho (wVal (.v d) Q) = rho (Q d) := congrArg rho (wVal_v)
theorem wS_unp {g : List Nat} : wS P go (.unp g e) env st N T XX = wE P go e env st (fun x s => wVal x fun d => wBd g false d env fun env' => N env' s) (fun c fs s => XX c fs env s) := by
  unfold wS wE; conv => lhs; unfold exS
  rw [OX_out]; congr; funext x s; cases x with
  | t l => rfl
  | v d =>
    show OX (match bindG g false d env with | some env' => Out.nx env' s | none => Out.stuck) N T XX = wOf (bindG g false d env) _
    cases bindG g false d env <;> rfl
@[simp ↓] theorem wS_unp_r {g : List Nat} : rho (wS P go (.unp g e) env st N T XX) = rho (wE P go e env st (fun x s => wVal x fun d => wBd g false d env fun env' => N env' s) (fun c fs s => XX c fs env s)) := congrArg rho (wS_unp)
theorem wBd_of {g : List Nat} {one : Bool} {env' : Env} {Q : Env → Prop} (h : bindG g one d env = some env') : wBd g one d env Q = Q env' := by unfold wBd; rw [h]; rfl
/-- a def's run, from within -/
theorem wF_in {m : Nat} {fn : Fn} : wF (goW P (m + 1)) fn ds st Q X = wS P (goW P m) fn.body (ds.map some ++ List.replicate (fn.ns - fn.np) none) st (fun _ s => Q (.v .non) s) Q (fun c fs _ s => X c fs s) := by
  rw [goW_eq, goW_eq]
  show RX (Out.fin (exS P (goI P m) fn.body _ st)) Q X = _
  unfold wS
  cases exS P (goI P m) fn.body (ds.map some ++ List.replicate (fn.ns - fn.np) none) st <;> rfl
theorem wF_eq {fn : Fn} {v : Ev} (h : go fn ds st = .ok v s) : wF go fn ds st Q X = Q v s := by unfold wF; rw [h]; rfl
theorem wF_use {fn : Fn} {Q' : QE} (h : rho (wF go fn ds st Q' fun _ _ _ => False)) (k : ∀ v s, Q' v s → rho (Q v s)) : rho (wF go fn ds st Q X) := RX.mono h k fun _ _ _ z => z.elim

theorem wF_det {fn : Fn} {v0 : Ev} {s0 : Store} (h : rho (wF go fn ds st (fun v s => v = v0 ∧ s = s0) fun _ _ _ => False)) : wF go fn ds st Q X = Q v0 s0 := by
  obtain ⟨v, s, e, rfl, rfl⟩ := RX.eq h
  exact wF_eq e
abbrev tr : QE := fun v _ => v = .v (.bl true)
abbrev nX : XC := fun _ _ _ => False
theorem rgOk {j : Int} (h : -4611686018427387904 ≤ j ∧ j < 4611686018427387904) : rngOk j = true := by
  unfold rngOk
  rw [Bool.and_eq_true_iff]
  exact ⟨decide_eq_true h.1, decide_eq_true h.2⟩
theorem get_iD {l : List Int} {i : Nat} {d : D} (h : (iD l)[i]? = some d) : ∃ y, d = .int y ∧ l[i]? = some y := by
  unfold iD at h
  rw [List.getElem?_map] at h
  cases q : l[i]? with
  | none => rw [q] at h; cases h
  | some y => rw [q] at h; cases h; exact ⟨y, rfl, rfl⟩
@[simp] theorem slD_6 {ds : List D} : slD ds none (some 6) = ds.take 6 := slD_to (k := 6)
@[simp] theorem slD_8 {ds : List D} : slD ds none (some 8) = ds.take 8 := slD_to (k := 8)
@[simp] theorem slD_10 {ds : List D} : slD ds none (some 10) = ds.take 10 := slD_to (k := 10)
@[simp] theorem slD_12 {ds : List D} : slD ds none (some 12) = ds.take 12 := slD_to (k := 12)
@[simp] theorem slD_15 {ds : List D} : slD ds none (some 15) = ds.take 15 := slD_to (k := 15)
@[simp] theorem slD_20 {ds : List D} : slD ds none (some 20) = ds.take 20 := slD_to (k := 20)
@[simp] theorem slD_24 {ds : List D} : slD ds none (some 24) = ds.take 24 := slD_to (k := 24)
@[simp] theorem slD_30 {ds : List D} : slD ds none (some 30) = ds.take 30 := slD_to (k := 30)
@[simp] theorem slD_40 {ds : List D} : slD ds none (some 40) = ds.take 40 := slD_to (k := 40)
@[simp] theorem slD_60 {ds : List D} : slD ds none (some 60) = ds.take 60 := slD_to (k := 60)
@[simp] theorem iD_take {l : List Int} {k : Nat} : (iD l).take k = iD (l.take k) := (List.map_take).symm
@[simp] theorem iD_len {l : List Int} : (iD l).length = l.length := List.length_map _
@[simp] theorem iD_cons {i : Int} {l : List Int} : D.int i :: iD l = iD (i :: l) := rfl
@[simp] theorem iD_app {l : List Int} {i : Int} : iD l ++ [D.int i] = iD (l ++ [i]) := by simp [iD]
theorem LI.get {s : Store} {a : Nat} {l : List Int} {Q : List D → Prop} (h : LI s a l) : rho (wGet s a Q) = rho (Q (iD l)) := congrArg rho (wGet_of h)
theorem lt_lim {n : Nat} (h : n ≤ 1000) : n < lim := by unfold lim; omega
theorem wAt_iD {l : List Int} {k : Nat} {y : Int} {Q : D → Prop} (h : l[k]? = some y) : rho (wAt (iD l) (k : Int) Q) = rho (Q (.int y)) := congrArg rho (wAt_of (L2.atI_nat (by simp [iD, h])))
theorem rgc_get {lo c : Int} {n i : Nat} {d : D} (h : (rngC lo c n)[i]? = some d) : d = .int (lo + (i : Int) * c) ∧ i < n := by
  have hl : (rngC lo c n).length = n := by simp [rngC]
  have hi' : i < n := by rw [← hl]; exact (List.getElem?_eq_some_iff.mp h).1
  unfold rngC at h
  rw [List.getElem?_map, List.getElem?_range hi'] at h
  cases h
  exact ⟨rfl, hi'⟩
theorem rgc_len {lo c : Int} {n : Nat} : (rngC lo c n).length = n := by simp [rngC]
theorem rgc_ok {i j c : Int} (hi : -1000000000000 ≤ i ∧ i ≤ 1000000000000) (hj : -1000000000000 ≤ j ∧ j ≤ 1000000000000) (hc : 0 < c ∧ c < 1000000) : rgcOk i j c = true := by
  have hp : c > 0 := hc.1
  have h0 : i < j → 0 ≤ (j - i - 1) / c ∧ (j - i - 1) / c ≤ j - i - 1 ∧ (j - i - 1) / c * c ≤ j - i - 1 ∧ 0 ≤ (j - i - 1) / c * c := fun h => by
    have h1 : 0 ≤ (j - i - 1) / c := Int.ediv_nonneg (by omega) (by omega)
    have h2 : (j - i - 1) / c * c ≤ j - i - 1 := Int.ediv_mul_le _ (by omega)
    refine ⟨h1, ?_, h2, Int.mul_nonneg h1 (by omega)⟩
    exact Int.ediv_le_self _ (by omega)
  unfold rgcOk Builtin.Range.small Builtin.Range.rangeSize
  simp only [Builtin.Range.rangeFitsLong, Bool.and_eq_true, Bool.or_eq_true, decide_eq_true_eq, beq_iff_eq, hp, if_true]
  refine ⟨by omega, by omega, ?_, ?_⟩
  · split
    · have := h0 (by assumption)
      simp [Int.add_mul]
      omega
    · omega
  · split
    · have := h0 (by assumption)
      omega
    · omega
theorem rgc_n {i j c : Int} (hc : 0 < c) (k : Nat) (h : k < (Builtin.Range.rangeSize i j c).toNat) : i + (k : Int) * c < j := by
  unfold Builtin.Range.rangeSize at h
  rw [if_pos hc] at h
  split at h
  · have h2 : (k : Int) ≤ (j - i - 1) / c := by omega
    have := Int.mul_le_of_le_ediv hc h2
    omega
  · simp at h
/-- the number at a place, 0 behind the end -/
def cellAt (l : List Int) (k : Int) : Int := l.getD k.toNat 0
theorem wCell {l : List Int} {k : Int} (hk : 0 ≤ k) {A : Int → Prop} : (if k < (l.length : Int) then rho (wAt (iD l) k fun d => wIn (.v d) A) else rho (A 0)) ↔ rho (A (cellAt l k)) := by
  obtain ⟨j, rfl⟩ : ∃ j : Nat, k = (j : Int) := ⟨k.toNat, by omega⟩
  unfold cellAt
  split
  · rw [wAt_iD (y := l[j]'(by omega)) (by simp [show j < l.length by omega])]
    show rho (A _) ↔ _
    rw [List.getD_eq_getElem?_getD, Int.toNat_natCast]
    simp [show j < l.length by omega]
  · rw [List.getD_eq_getElem?_getD, Int.toNat_natCast]
    simp [show l.length ≤ j by omega]
theorem wCellE {l : List Int} {k : Int} {s : Store} {Q : QE} (hk : 0 ≤ k) : (if k < (l.length : Int) then rho (wAt (iD l) k fun d => Q (.v d) s) else rho (Q (.v (.int 0)) s)) = rho (Q (.v (.int (cellAt l k))) s) := by
  obtain ⟨j, rfl⟩ : ∃ j : Nat, k = (j : Int) := ⟨k.toNat, by omega⟩
  unfold cellAt
  split
  · rw [wAt_iD (y := l[j]'(by omega)) (by simp [show j < l.length by omega])]
    rw [List.getD_eq_getElem?_getD, Int.toNat_natCast]
    simp [show j < l.length by omega]
  · rw [List.getD_eq_getElem?_getD, Int.toNat_natCast]
    simp [show l.length ≤ j by omega]
def pk2 (a b i : Int) : Int := if i = 0 then a else b
def pk3 (a b c i : Int) : Int := if i = 0 then a else if i = 1 then b else c
def pk4 (a b c d i : Int) : Int := if i = 0 then a else if i = 1 then b else if i = 2 then c else d
theorem pk2_pos {a b i : Int} (ha : 0 < a) (hb : 0 < b) : 0 < pk2 a b i := by unfold pk2; split <;> assumption
theorem pk3_pos {a b c i : Int} (ha : 0 < a) (hb : 0 < b) (hc : 0 < c) : 0 < pk3 a b c i := by unfold pk3; repeat (split <;> try assumption)
theorem pk4_pos {a b c d i : Int} (ha : 0 < a) (hb : 0 < b) (hc : 0 < c) (hd : 0 < d) : 0 < pk4 a b c d i := by unfold pk4; repeat (split <;> try assumption)
theorem wAt_pk2 {a b i : Int} {Q : D → Prop} (h : 0 ≤ i ∧ i < 2) : rho (wAt [.int a, .int b] i Q) = rho (Q (.int (pk2 a b i))) := by
  obtain ⟨h1, h2⟩ := h
  rcases (by omega : i = 0 ∨ i = 1) with rfl | rfl
  · exact congrArg rho wAt_0
  · exact congrArg rho wAt_1
theorem wAt_pk3 {a b c i : Int} {Q : D → Prop} (h : 0 ≤ i ∧ i < 3) : rho (wAt [.int a, .int b, .int c] i Q) = rho (Q (.int (pk3 a b c i))) := by
  obtain ⟨h1, h2⟩ := h
  rcases (by omega : i = 0 ∨ i = 1 ∨ i = 2) with rfl | rfl | rfl
  · exact congrArg rho wAt_0
  · exact congrArg rho wAt_1
  · exact congrArg rho wAt_2
theorem wAt_pk4 {a b c d i : Int} {Q : D → Prop} (h : 0 ≤ i ∧ i < 4) : rho (wAt [.int a, .int b, .int c, .int d] i Q) = rho (Q (.int (pk4 a b c d i))) := by
  obtain ⟨h1, h2⟩ := h
  rcases (by omega : i = 0 ∨ i = 1 ∨ i = 2 ∨ i = 3) with rfl | rfl | rfl | rfl
  · exact congrArg rho wAt_0
  · exact congrArg rho wAt_1
  · exact congrArg rho wAt_2
  · exact congrArg rho wAt_3
/-! loops -/
theorem OX_for {cur : Cur} {g : List Nat} {one : Bool} {body : Env → Store → Out} (I : Nat → Env → Store → Prop) (hc : ∀ i e s, I i e s → cur s = some ds)
    (hb : ∀ i d e s, ds[i]? = some d → I i e s → wBd g one d e fun e' => OX (body e' s) (I (i + 1)) T XX) : ∀ k i e s, ds.length ≤ i + k → i ≤ ds.length → I i e s → OX (forGo cur g one body k i e s) (I ds.length) T XX
  | 0, i, e, s, h1, h2, h => by
    unfold forGo
    rw [hc _ _ _ h]
    have : i = ds.length := by omega
    subst this
    simp only [Nat.le_refl, if_true]
    exact h
  | k + 1, i, e, s, h1, h2, h => by
    unfold forGo
    rw [hc _ _ _ h]
    show OX (match ds[i]? with | none => _ | some d => _) _ _ _
    cases q : ds[i]? with
    | none =>
      have : i = ds.length := by
        have := List.getElem?_eq_none_iff.mp q
        omega
      subst this
      exact h
    | some d =>
      have hlt : i < ds.length := (List.getElem?_eq_some_iff.mp q).1
      have h3 := hb i d e s q h
      unfold wBd at h3
      show OX (match bindG g one d e with | some env' => (body env' s).bind fun e s => forGo cur g one body k (i + 1) e s | none => .stuck) _ _ _
      cases q2 : bindG g one d e with
      | none => rw [q2] at h3; exact h3.elim
      | some e' =>
        rw [q2] at h3
        simp only
        rw [OX_bind]
        exact OX.mono h3 (fun e2 s2 h5 => OX_for I hc hb k (i + 1) e2 s2 (by omega) (by omega) h5) (fun _ _ z => z) fun _ _ _ _ z => z
def IxCur (cur : Cur) (ds : List D) (s : Store) : Prop := cur s = some ds
/-- for, by an invariant; the walked thing's items are ds while the invariant holds -/
theorem wS_for {g : List Nat} {one : Bool} {it : Wk} (ds : List D) (I : Nat → Env → Store → Prop)
    (hi : rho (wI P go it env st (fun cur s => I 0 env s ∧ ∀ i e s', I i e s' → cur s' = some ds) (fun c fs s => XX c fs env s)))
    (hb : ∀ i d e s, ds[i]? = some d → I i e s → rho (wBd g one d e fun e' => wS P go p e' s (I (i + 1)) T XX)) (hn : ∀ e s, I ds.length e s → rho (N e s)) : rho (wS P go (.loop g one it p) env st N T XX) := by
  unfold rho wS
  unfold exS
  rw [OX_out]
  refine RX.mono hi (fun cur s h => ?_) fun _ _ _ z => z
  obtain ⟨h0, hc⟩ := h
  have e : turns cur s = ds.length := by
    unfold turns
    rw [hc _ _ _ h0]
  exact OX.mono (OX_for I hc hb (turns cur s) 0 env s (by rw [e]; omega) (Nat.zero_le _) h0) hn (fun _ _ z => z) fun _ _ _ _ z => z
theorem OX_wh {cnd : Env → Store → R Bool} {body : Env → Store → Out} (I : Nat → Env → Store → Prop) (hb : ∀ m e s, I m e s → RX (cnd e s) (fun k s' => if k = true then 0 < m ∧ OX (body e s') (I (m - 1)) T XX else N e s') (fun c fs s => XX c fs e s)) : ∀ k m e s, m < k → I m e s → OX (whGo cnd body k e s) N T XX
  | 0, m, e, s, h1, h => by omega
  | k + 1, m, e, s, h1, h => by
    unfold whGo
    rw [OX_out]
    refine RX.mono (hb m e s h) (fun b s' z => ?_) fun _ _ _ z => z
    cases b with
    | true =>
      obtain ⟨q2, q3⟩ := z
      show OX (Out.bind _ _) _ _ _
      rw [OX_bind]
      exact OX.mono q3 (fun e2 s2 h5 => OX_wh I hb k (m - 1) e2 s2 (by omega) h5) (fun _ _ z => z) fun _ _ _ _ z => z
    | false => exact z
/-- while, by an invariant over the turns that may be left -/
theorem wS_wh (m : Nat) (I : Nat → Env → Store → Prop) (hm : m < 1000000) (h0 : I m env st) (hb : ∀ m e' s, I m e' s → rho (wT P go e e' s (fun k s' => if k = true then 0 < m ∧ wS P go p e' s' (I (m - 1)) T XX else N e' s') (fun c fs s => XX c fs e' s))) : rho (wS P go (.whl e p) env st N T XX) :=
  OX_wh I hb _ m env st hm h0
theorem wI_rng1 {Q : Cur → Store → Prop} : wI P go (.rng (.cons a .nil)) env st Q X = wE P go a env st (fun x s => wIn x fun j => rngOk j = true ∧ Q (fun _ => some (rngL 0 j)) s) X := by
  unfold wI wE; conv => lhs; unfold evI evEs
  rw [RX_bind, RX_bind]; congr; funext x s; cases x with
  | t l => rfl
  | v d => cases d with
    | int i =>
      show RX (match (if rngOk i then some fun _ => some (rngL 0 i) else none : Option Cur) with | some cur => R.ok cur s | none => .stuck) Q X = (rngOk i = true ∧ _)
      cases rngOk i <;> simp [RX]
    | _ => rfl
@[simp ↓] theorem wI_rng1_r {Q : Cur → Store → Prop} : rho (wI P go (.rng (.cons a .nil)) env st Q X) = rho (wE P go a env st (fun x s => wIn x fun j => rngOk j = true ∧ Q (fun _ => some (rngL 0 j)) s) X) := congrArg rho (wI_rng1)
theorem wI_rng2 {Q : Cur → Store → Prop} : wI P go (.rng (.cons a (.cons b .nil))) env st Q X = wE P go a env st (fun x s => wE P go b env s (fun y s' => wIn x fun i => wIn y fun j => (rngOk i && rngOk j) = true ∧ Q (fun _ => some (rngL i j)) s') X) X := by
  unfold wI wE; conv => lhs; unfold evI evEs
  rw [RX_bind, RX_bind]; congr; funext x s; unfold evEs; rw [RX_bind, RX_bind]; congr; funext y s'; cases x with
  | t l => cases y <;> rfl
  | v d => cases d with
    | int i => cases y with
      | t l => rfl
      | v d => cases d with
        | int j =>
          show RX (match (if rngOk i && rngOk j then some fun _ => some (rngL i j) else none : Option Cur) with | some cur => R.ok cur s' | none => .stuck) Q X = ((rngOk i && rngOk j) = true ∧ _)
          cases (rngOk i && rngOk j) <;> simp [RX]
        | _ => rfl
    | _ => cases y <;> rfl
@[simp ↓] theorem wI_rng2_r {Q : Cur → Store → Prop} : rho (wI P go (.rng (.cons a (.cons b .nil))) env st Q X) = rho (wE P go a env st (fun x s => wE P go b env s (fun y s' => wIn x fun i => wIn y fun j => (rngOk i && rngOk j) = true ∧ Q (fun _ => some (rngL i j)) s') X) X) := congrArg rho (wI_rng2)
theorem wI_rng3 {Q : Cur → Store → Prop} : wI P go (.rng (.cons a (.cons b (.cons c .nil)))) env st Q X = wE P go a env st (fun x s => wE P go b env s (fun y s' => wE P go c env s' (fun z s' => wIn x fun i => wIn y fun j => wIn z fun k => rgcOk i j k = true ∧ Q (fun _ => some (rngC i k (Builtin.Range.rangeSize i j k).toNat)) s') X) X) X := by
  unfold wI wE; conv => lhs; unfold evI evEs
  rw [RX_bind, RX_bind]; congr; funext x s; unfold evEs; rw [RX_bind, RX_bind]; congr; funext y s'; unfold evEs; rw [RX_bind, RX_bind]; congr; funext z s2; cases x with
  | t l => cases y <;> cases z <;> rfl
  | v d => cases y with
    | t l => cases d <;> cases z <;> rfl
    | v d2 => cases z with
      | t l => cases d <;> cases d2 <;> rfl
      | v d3 => cases d with
        | int i => cases d2 with
          | int j => cases d3 with
            | int k =>
              show RX (match (if rgcOk i j k then some fun _ => some (rngC i k (Builtin.Range.rangeSize i j k).toNat) else none : Option Cur) with | some cur => R.ok cur s2 | none => .stuck) Q X = (rgcOk i j k = true ∧ _)
              cases rgcOk i j k <;> simp [RX]
            | _ => rfl
          | _ => cases d3 <;> rfl
        | _ => cases d2 <;> cases d3 <;> rfl
@[simp ↓] theorem wI_rng3_r {Q : Cur → Store → Prop} : rho (wI P go (.rng (.cons a (.cons b (.cons c .nil)))) env st Q X) = rho (wE P go a env st (fun x s => wE P go b env s (fun y s' => wE P go c env s' (fun z s' => wIn x fun i => wIn y fun j => wIn z fun k => rgcOk i j k = true ∧ Q (fun _ => some (rngC i k (Builtin.Range.rangeSize i j k).toNat)) s') X) X) X) := congrArg rho (wI_rng3)
/-- the walk along a list that stands -/
def wFl (P : Prog) (go : Go) (g : List Nat) (one : Bool) (p : S) (ds : List D) (env : Env) (st : Store) (N : NC) (T : QE) (XX : XS) : Prop := OX (forGo (fun _ => some ds) g one (fun e s => exS P go p e s) ds.length 0 env st) N T XX
/-- the walk along a list by its place -/
def wFr (P : Prog) (go : Go) (g : List Nat) (one : Bool) (p : S) (n : Nat) (env : Env) (st : Store) (N : NC) (T : QE) (XX : XS) : Prop := OX (forGo (fun s => items s (.v (.ref n))) g one (fun e s => exS P go p e s) (turns (fun s => items s (.v (.ref n))) st) 0 env st) N T XX
theorem wFl_inv {g : List Nat} {one : Bool} (I : Nat → Env → Store → Prop) (h0 : I 0 env st) (hb : ∀ i d e s, ds[i]? = some d → I i e s → rho (wBd g one d e fun e' => wS P go p e' s (I (i + 1)) T XX)) (hn : ∀ e s, I ds.length e s → rho (N e s)) : rho (wFl P go g one p ds env st N T XX) :=
  OX.mono (OX_for I (fun _ _ _ _ => rfl) hb ds.length 0 env st (by omega) (Nat.zero_le _) h0) hn (fun _ _ z => z) fun _ _ _ _ z => z
theorem wFr_inv {g : List Nat} {one : Bool} (ds : List D) (I : Nat → Env → Store → Prop) (hc : ∀ i e s, I i e s → s[n]? = some (.lst ds)) (h0 : I 0 env st) (hb : ∀ i d e s, ds[i]? = some d → I i e s → rho (wBd g one d e fun e' => wS P go p e' s (I (i + 1)) T XX)) (hn : ∀ e s, I ds.length e s → rho (N e s)) : rho (wFr P go g one p n env st N T XX) := by
  have e : turns (fun s => items s (.v (.ref n))) st = ds.length := by
    unfold turns
    show (match items st (.v (.ref n)) with | some ds => ds.length | none => 0) = _
    rw [itRef (hc _ _ _ h0)]
  unfold rho wFr
  rw [e]
  exact OX.mono (OX_for I (fun i e s h => itRef (hc i e s h)) hb ds.length 0 env st (by omega) (Nat.zero_le _) h0) hn (fun _ _ z => z) fun _ _ _ _ z => z
theorem OX_shift {g : List Nat} {one : Bool} {body : Env → Store → Out} {d : D} : ∀ k i (e : Env) (s : Store), forGo (fun _ => some (d :: ds)) g one body k (i + 1) e s = forGo (fun _ => some ds) g one body k i e s
  | 0, i, e, s => by
    unfold forGo
    simp only [List.length_cons, Nat.add_le_add_iff_right]
  | k + 1, i, e, s => by
    unfold forGo
    simp only [List.getElem?_cons_succ]
    cases ds[i]? with
    | none => rfl
    | some d2 =>
      simp only
      cases bindG g one d2 e with
      | none => rfl
      | some e' =>
        simp only
        congr 1; funext e2 s2
        exact OX_shift k (i + 1) e2 s2
/-- what a comprehension does with one item -/
def wLcF (P : Prog) (go : Go) (g : List Nat) (one : Bool) (c : Option E) (e : E) (env : Env) (d : D) (s : Store) (Q : Option D → Store → Prop) : Prop := RX (lcF P go g one c e env d s) Q fun _ _ _ => False
def wLc (P : Prog) (go : Go) (g : List Nat) (one : Bool) (c : Option E) (e : E) (env : Env) (cur : Cur) (k i : Nat) (acc : List D) (s : Store) (Q : List D → Store → Prop) : Prop := RX (lcGo cur (lcF P go g one c e env) k i acc s) Q fun _ _ _ => False
theorem wE_lc {g : List Nat} {one : Bool} {it : Wk} {c : Option E} : wE P go (.lc g one it c e) env st Q X = wI P go it env st (fun cur s => wLc P go g one c e env cur (turns cur s) 0 [] s fun ys s2 => Q (.t ys) s2) X := by
  unfold wE wI
  rw [evE_lc, RX_bind]; congr; funext cur s
  rw [RX_bind]
  unfold wLc
  cases h : lcGo cur (lcF P go g one c e env) (turns cur s) 0 [] s with
  | ok ys s2 => rfl
  | ex _ _ _ => exact absurd h lcGo_noex
  | stuck => rfl
@[simp ↓] theorem wE_lc_r {g : List Nat} {one : Bool} {it : Wk} {c : Option E} : rho (wE P go (.lc g one it c e) env st Q X) = rho (wI P go it env st (fun cur s => wLc P go g one c e env cur (turns cur s) 0 [] s fun ys s2 => Q (.t ys) s2) X) := congrArg rho (wE_lc)
theorem wLcF_eq {g : List Nat} {one : Bool} {c : Option E} {Q : Option D → Store → Prop} (h : wBd g one d env fun env' => match c with
    | none => wE P go e env' s (fun x s2 => wM x s2 fun y s3 => Q (some y) s3) fun _ _ _ => False
    | some c => wE P go c env' s (fun x s1 => wBo x fun b => if b = true then wE P go e env' s1 (fun x s2 => wM x s2 fun y s3 => Q (some y) s3) (fun _ _ _ => False) else Q none s1) fun _ _ _ => False) : wLcF P go g one c e env d s Q := by
  unfold wLcF lcF
  unfold wBd at h
  cases q : bindG g one d env with
  | none => rw [q] at h; exact h.elim
  | some env' =>
    rw [q] at h
    have h' := h
    simp only [wOf] at h'
    cases c with
    | none =>
      simp only at h' ⊢
      rw [RX_bind]
      refine RX.mono h' (fun x s2 z => ?_) fun _ _ _ z => z
      unfold asV
      exact z
    | some c =>
      simp only at h' ⊢
      rw [RX_bind]
      refine RX.mono h' (fun x s2 z => ?_) fun _ _ _ z => z
      cases x with
      | t l => exact z.elim
      | v d => cases d with
        | bl b =>
          cases b with
          | true =>
            have z' : wE P go e env' s2 (fun x s2 => wM x s2 fun y s3 => Q (some y) s3) (fun _ _ _ => False) := by simpa [wBo] using z
            simp only [if_true]
            rw [RX_bind]
            refine RX.mono z' (fun x s2 z => ?_) fun _ _ _ z => z
            unfold asV
            exact z
          | false =>
            have z' : Q none s2 := by simpa [wBo] using z
            exact z'
        | _ => exact z.elim
/-- a comprehension over ds, by an invariant on what is made so far -/
theorem RX_lc {g : List Nat} {one : Bool} {c : Option E} {cur : Cur} (I : Nat → List D → Store → Prop) (hc : ∀ i acc s, I i acc s → cur s = some ds)
    (hb : ∀ i d acc s, ds[i]? = some d → I i acc s → wLcF P go g one c e env d s fun o s' => match o with
      | some y => acc.length < lim ∧ I (i + 1) (acc ++ [y]) s'
      | none => I (i + 1) acc s') : ∀ k i acc s, ds.length ≤ i + k → i ≤ ds.length → I i acc s → RX (lcGo cur (lcF P go g one c e env) k i acc s) (fun ys s' => I ds.length ys s') fun _ _ _ => False
  | 0, i, acc, s, h1, h2, h => by
    unfold lcGo
    rw [hc _ _ _ h]
    have : i = ds.length := by omega
    subst this
    simp only [Nat.le_refl, if_true]
    exact h
  | k + 1, i, acc, s, h1, h2, h => by
    unfold lcGo
    cases q : ds[i]? with
    | none =>
      have : i = ds.length := by
        have := List.getElem?_eq_none_iff.mp q
        omega
      subst this
      simp only [hc _ _ _ h, q]
      exact h
    | some d =>
      have hlt : i < ds.length := (List.getElem?_eq_some_iff.mp q).1
      have h3 := hb i d acc s q h
      unfold wLcF at h3
      simp only [hc _ _ _ h, q]
      cases q2 : lcF P go g one c e env d s with
      | stuck => rw [q2] at h3; exact h3.elim
      | ex _ _ _ => rw [q2] at h3; exact h3.elim
      | ok o s' =>
        rw [q2] at h3
        cases o with
        | none => exact RX_lc I hc hb k (i + 1) acc s' (by omega) (by omega) h3
        | some y =>
          simp only
          rw [if_pos h3.1]
          exact RX_lc I hc hb k (i + 1) _ s' (by omega) (by omega) h3.2
theorem wLc_inv {g : List Nat} {one : Bool} {c : Option E} {cur : Cur} {Q : List D → Store → Prop} (ds : List D) (I : Nat → List D → Store → Prop) (h0 : I 0 [] s) (hc : ∀ i acc s, I i acc s → cur s = some ds)
    (hb : ∀ i d acc s, ds[i]? = some d → I i acc s → rho (wLcF P go g one c e env d s fun o s' => match o with
      | some y => acc.length < lim ∧ I (i + 1) (acc ++ [y]) s'
      | none => I (i + 1) acc s')) (hn : ∀ ys s', I ds.length ys s' → rho (Q ys s')) : rho (wLc P go g one c e env cur (turns cur s) 0 [] s Q) := by
  have e : turns cur s = ds.length := by unfold turns; rw [hc _ _ _ h0]
  unfold rho wLc
  rw [e]
  exact RX.mono (RX_lc I hc hb ds.length 0 [] s (by omega) (Nat.zero_le _) h0) hn fun _ _ _ z => z
/-- a comprehension that leaves the store, its turns told by a function -/
theorem wLc_map {g : List Nat} {one : Bool} {c : Option E} {cur : Cur} {Q : List D → Store → Prop} (ds : List D) (f : D → Option D) (hl : ds.length < lim) (hc : cur s = some ds)
    (hb : ∀ d ∈ ds, rho (wLcF P go g one c e env d s fun o s' => o = f d ∧ s' = s)) : rho (wLc P go g one c e env cur (turns cur s) 0 [] s Q) = rho (Q (ds.filterMap f) s) := by
  have run : RX (lcGo cur (lcF P go g one c e env) (turns cur s) 0 [] s) (fun ys s' => ys = ds.filterMap f ∧ s' = s) fun _ _ _ => False := by
    have et : turns cur s = ds.length := by unfold turns; rw [hc]
    rw [et]
    have := RX_lc (P := P) (go := go) (g := g) (one := one) (c := c) (e := e) (env := env) (ds := ds) (cur := cur) (fun i acc s' => s' = s ∧ acc = (ds.take i).filterMap f) (fun i acc s' h => by rw [h.1]; exact hc) (fun i d acc s' hd h => by
      obtain ⟨rfl, rfl⟩ := h
      have h3 := hb d (List.mem_of_getElem? hd)
      unfold rho wLcF at h3
      unfold wLcF
      refine RX.mono h3 (fun o s2 z => ?_) fun _ _ _ z => z
      obtain ⟨rfl, rfl⟩ := z
      have ht : ds.take (i + 1) = ds.take i ++ [d] := by
        rw [List.take_succ, hd]; rfl
      have hlt : i < ds.length := (List.getElem?_eq_some_iff.mp hd).1
      rw [ht, List.filterMap_append]
      cases hfd : f d with
      | none => exact ⟨rfl, by simp [hfd]⟩
      | some y =>
        refine ⟨Nat.lt_of_le_of_lt (List.length_filterMap_le _ _) ?_, rfl, by simp [hfd]⟩
        rw [List.length_take]; omega) ds.length 0 [] s (by omega) (Nat.zero_le _) ⟨rfl, rfl⟩
    refine RX.mono this (fun ys s' z => ?_) fun _ _ _ z => z
    obtain ⟨rfl, rfl⟩ := z
    rw [List.take_length]
    exact ⟨rfl, rfl⟩
  unfold rho wLc
  cases h : lcGo cur (lcF P go g one c e env) (turns cur s) 0 [] s with
  | ok ys s2 =>
    rw [h] at run
    obtain ⟨rfl, rfl⟩ := run
    rfl
  | ex _ _ _ => rw [h] at run; exact run.elim
  | stuck => rw [h] at run; exact run.elim
theorem wFl_nil {g : List Nat} {one : Bool} : wFl P go g one p [] env st N T XX = N env st := rfl
@[simp ↓] theorem wFl_nil_r {g : List Nat} {one : Bool} : rho (wFl P go g one p [] env st N T XX) = rho (N env st) := congrArg rho (wFl_nil)
theorem wFl_cons {g : List Nat} {one : Bool} : wFl P go g one p (d :: ds) env st N T XX = wBd g one d env fun e' => wS P go p e' st (fun e s => wFl P go g one p ds e s N T XX) T XX := by
  unfold wFl wBd wS
  show OX (forGo _ _ _ _ (ds.length + 1) 0 env st) N T XX = _
  rw [forGo]
  simp only [List.getElem?_cons_zero]
  cases bindG g one d env with
  | none => rfl
  | some e' =>
    simp only [wOf]
    rw [OX_bind]
    congr; funext e s
    rw [OX_shift]
@[simp ↓] theorem wFl_cons_r {g : List Nat} {one : Bool} : rho (wFl P go g one p (d :: ds) env st N T XX) = rho (wBd g one d env fun e' => wS P go p e' st (fun e s => wFl P go g one p ds e s N T XX) T XX) := congrArg rho (wFl_cons)
def wLoop (P : Prog) (go : Go) (g : List Nat) (one : Bool) (p : S) (x : Ev) (env : Env) (st : Store) (N : NC) (T : QE) (XX : XS) : Prop := wOf (curOf x st) fun cur => OX (forGo cur g one (fun e s => exS P go p e s) (turns cur st) 0 env st) N T XX
theorem wS_loopS {g : List Nat} {one : Bool} : wS P go (.loop g one (.seq a) p) env st N T XX = wE P go a env st (fun x s => wLoop P go g one p x env s N T XX) (fun c fs s => XX c fs env s) := by
  unfold wS wE; conv => lhs; unfold exS evI
  rw [OX_out, RX_bind]; congr; funext x s; unfold wLoop; cases curOf x s <;> rfl
@[simp ↓] theorem wS_loopS_r {g : List Nat} {one : Bool} : rho (wS P go (.loop g one (.seq a) p) env st N T XX) = rho (wE P go a env st (fun x s => wLoop P go g one p x env s N T XX) (fun c fs s => XX c fs env s)) := congrArg rho (wS_loopS)
theorem wLoop_t {g : List Nat} {one : Bool} : wLoop P go g one p (.t ds) env st N T XX = wFl P go g one p ds env st N T XX := rfl
@[simp ↓] theorem wLoop_t_r {g : List Nat} {one : Bool} : rho (wLoop P go g one p (.t ds) env st N T XX) = rho (wFl P go g one p ds env st N T XX) := congrArg rho (wLoop_t)
theorem wLoop_tup {g : List Nat} {one : Bool} : wLoop P go g one p (.v (.tup ds)) env st N T XX = wFl P go g one p ds env st N T XX := rfl
@[simp ↓] theorem wLoop_tup_r {g : List Nat} {one : Bool} : rho (wLoop P go g one p (.v (.tup ds)) env st N T XX) = rho (wFl P go g one p ds env st N T XX) := congrArg rho (wLoop_tup)
theorem wLoop_str {x : Str} {g : List Nat} {one : Bool} : wLoop P go g one p (.v (.str x)) env st N T XX = wFl P go g one p (signs x) env st N T XX := rfl
@[simp ↓] theorem wLoop_str_r {x : Str} {g : List Nat} {one : Bool} : rho (wLoop P go g one p (.v (.str x)) env st N T XX) = rho (wFl P go g one p (signs x) env st N T XX) := congrArg rho (wLoop_str)
def wLoopR (P : Prog) (go : Go) (g : List Nat) (one : Bool) (p : S) (x : Ev) (env : Env) (st : Store) (N : NC) (T : QE) (XX : XS) : Prop := wOf (curRev x st) fun cur => OX (forGo cur g one (fun e s => exS P go p e s) (turns cur st) 0 env st) N T XX
theorem wS_loopR {g : List Nat} {one : Bool} : wS P go (.loop g one (.rev a) p) env st N T XX = wE P go a env st (fun x s => wLoopR P go g one p x env s N T XX) (fun c fs s => XX c fs env s) := by
  unfold wS wE; conv => lhs; unfold exS evI
  rw [OX_out, RX_bind]; congr; funext x s; unfold wLoopR; cases curRev x s <;> rfl
@[simp ↓] theorem wS_loopR_r {g : List Nat} {one : Bool} : rho (wS P go (.loop g one (.rev a) p) env st N T XX) = rho (wE P go a env st (fun x s => wLoopR P go g one p x env s N T XX) (fun c fs s => XX c fs env s)) := congrArg rho (wS_loopR)
theorem wLoopR_t {g : List Nat} {one : Bool} : wLoopR P go g one p (.t ds) env st N T XX = wFl P go g one p ds.reverse env st N T XX := by
  show OX (forGo (fun _ => some ds.reverse) g one _ ds.reverse.length 0 env st) N T XX = _
  rfl
@[simp ↓] theorem wLoopR_t_r {g : List Nat} {one : Bool} : rho (wLoopR P go g one p (.t ds) env st N T XX) = rho (wFl P go g one p ds.reverse env st N T XX) := congrArg rho (wLoopR_t)
theorem wLoopR_ro {g : List Nat} {one : Bool} : wLoopR P go g one p (.v (.ro ds)) env st N T XX = wFl P go g one p ds.reverse env st N T XX := rfl
@[simp ↓] theorem wLoopR_ro_r {g : List Nat} {one : Bool} : rho (wLoopR P go g one p (.v (.ro ds)) env st N T XX) = rho (wFl P go g one p ds.reverse env st N T XX) := congrArg rho (wLoopR_ro)
/-- reversed(a list), by an invariant while the list stands -/
theorem wLoopR_inv {g : List Nat} {one : Bool} (ds : List D) (I : Nat → Env → Store → Prop) (hc : ∀ i e s, I i e s → s[n]? = some (.lst ds)) (h0 : I 0 env st)
    (hb : ∀ i d e s, ds.reverse[i]? = some d → I i e s → rho (wBd g one d e fun e' => wS P go p e' s (I (i + 1)) T XX)) (hn : ∀ e s, I ds.length e s → rho (N e s)) : rho (wLoopR P go g one p (.v (.ref n)) env st N T XX) := by
  have e0 : lstE st (.v (.ref n)) = some ds := itRef (hc _ _ _ h0)
  unfold rho wLoopR curRev
  rw [e0]
  have hcur : ∀ i e s, I i e s → (fun s => (items s (.v (.ref n))).bind fun es => if es.length = ds.length then some es.reverse else none) s = some ds.reverse := fun i e s h => by
    show ((items s (.v (.ref n))).bind fun es => if es.length = ds.length then some es.reverse else none) = _
    rw [itRef (hc i e s h)]
    show (if ds.length = ds.length then some ds.reverse else none) = _
    rw [if_pos rfl]
  have et : turns (fun s => (items s (.v (.ref n))).bind fun es => if es.length = ds.length then some es.reverse else none) st = ds.reverse.length := by
    unfold turns
    rw [hcur 0 env st h0]
  show OX (forGo (fun s => (items s (.v (.ref n))).bind fun es => if es.length = ds.length then some es.reverse else none) g one _ (turns _ st) 0 env st) N T XX
  rw [et]
  exact OX.mono (OX_for I hcur hb ds.reverse.length 0 env st (by omega) (Nat.zero_le _) h0) (fun e s h => hn e s (by rw [List.length_reverse] at h; exact h)) (fun _ _ z => z) fun _ _ _ _ z => z
theorem wLoop_ro {g : List Nat} {one : Bool} : wLoop P go g one p (.v (.ro ds)) env st N T XX = wFl P go g one p ds env st N T XX := rfl
@[simp ↓] theorem wLoop_ro_r {g : List Nat} {one : Bool} : rho (wLoop P go g one p (.v (.ro ds)) env st N T XX) = rho (wFl P go g one p ds env st N T XX) := congrArg rho (wLoop_ro)
theorem wLoop_lst {g : List Nat} {one : Bool} (h : wGet st n fun _ => wFr P go g one p n env st N T XX) : wLoop P go g one p (.v (.ref n)) env st N T XX := by
  unfold wGet at h
  unfold wLoop curOf
  simp only
  cases q : st[n]? with
  | none => rw [q] at h; exact h.elim
  | some cc =>
    rw [q] at h
    cases cc with
    | lst l => exact h
    | ins c fs => exact h.elim
    | dic _ _ => exact h.elim
/-- for along a list by its place, by an invariant -/
theorem wLoop_inv {g : List Nat} {one : Bool} (ds : List D) (I : Nat → Env → Store → Prop) (hc : ∀ i e s, I i e s → s[n]? = some (.lst ds)) (h0 : I 0 env st) (hb : ∀ i d e s, ds[i]? = some d → I i e s → rho (wBd g one d e fun e' => wS P go p e' s (I (i + 1)) T XX)) (hn : ∀ e s, I ds.length e s → rho (N e s)) : rho (wLoop P go g one p (.v (.ref n)) env st N T XX) := by
  refine wLoop_lst ?_
  rw [wGet_of (hc _ _ _ h0)]
  exact wFr_inv ds I hc h0 hb hn
theorem rngOk_iff {j : Int} : rngOk j = true ↔ (-4611686018427387904 ≤ j ∧ j < 4611686018427387904) := by
  unfold rngOk
  rw [Bool.and_eq_true_iff, decide_eq_true_iff, decide_eq_true_iff]
  exact Iff.rfl
theorem wS_loop1 {g : List Nat} {one : Bool} : wS P go (.loop g one (.rng (.cons a .nil)) p) env st N T XX = wE P go a env st (fun x s => wIn x fun j => (-4611686018427387904 ≤ j ∧ j < 4611686018427387904) ∧ wFl P go g one p (rngL 0 j) env s N T XX) (fun c fs s => XX c fs env s) := by
  have e : wS P go (.loop g one (.rng (.cons a .nil)) p) env st N T XX = wI P go (.rng (.cons a .nil)) env st (fun cur s => OX (forGo cur g one (fun e s => exS P go p e s) (turns cur s) 0 env s) N T XX) (fun c fs s => XX c fs env s) := by
    unfold wS wI; conv => lhs; unfold exS
    rw [OX_out]
  rw [e, wI_rng1]
  unfold wE; congr; funext x s
  cases x with
  | t l => rfl
  | v d => cases d with
    | int j =>
      show (rngOk j = true ∧ _) = (_ ∧ _)
      rw [rngOk_iff]; rfl
    | _ => rfl
@[simp ↓] theorem wS_loop1_r {g : List Nat} {one : Bool} : rho (wS P go (.loop g one (.rng (.cons a .nil)) p) env st N T XX) = rho (wE P go a env st (fun x s => wIn x fun j => (-4611686018427387904 ≤ j ∧ j < 4611686018427387904) ∧ wFl P go g one p (rngL 0 j) env s N T XX) (fun c fs s => XX c fs env s)) := congrArg rho (wS_loop1)
theorem wS_loop2 {g : List Nat} {one : Bool} : wS P go (.loop g one (.rng (.cons a (.cons b .nil))) p) env st N T XX = wE P go a env st (fun x s => wE P go b env s (fun y s' => wIn x fun i => wIn y fun j => ((-4611686018427387904 ≤ i ∧ i < 4611686018427387904) ∧ (-4611686018427387904 ≤ j ∧ j < 4611686018427387904)) ∧ wFl P go g one p (rngL i j) env s' N T XX) (fun c fs s => XX c fs env s)) (fun c fs s => XX c fs env s) := by
  have e : wS P go (.loop g one (.rng (.cons a (.cons b .nil))) p) env st N T XX = wI P go (.rng (.cons a (.cons b .nil))) env st (fun cur s => OX (forGo cur g one (fun e s => exS P go p e s) (turns cur s) 0 env s) N T XX) (fun c fs s => XX c fs env s) := by
    unfold wS wI; conv => lhs; unfold exS
    rw [OX_out]
  rw [e, wI_rng2]
  unfold wE; congr; funext x s; congr; funext y s'
  cases x with
  | t l => rfl
  | v d => cases d with
    | int i => cases y with
      | t l => rfl
      | v d => cases d with
        | int j =>
          show ((rngOk i && rngOk j) = true ∧ _) = (_ ∧ _)
          rw [Bool.and_eq_true_iff, rngOk_iff, rngOk_iff]; rfl
        | _ => rfl
    | _ => rfl
@[simp ↓] theorem wS_loop2_r {g : List Nat} {one : Bool} : rho (wS P go (.loop g one (.rng (.cons a (.cons b .nil))) p) env st N T XX) = rho (wE P go a env st (fun x s => wE P go b env s (fun y s' => wIn x fun i => wIn y fun j => ((-4611686018427387904 ≤ i ∧ i < 4611686018427387904) ∧ (-4611686018427387904 ≤ j ∧ j < 4611686018427387904)) ∧ wFl P go g one p (rngL i j) env s' N T XX) (fun c fs s => XX c fs env s)) (fun c fs s => XX c fs env s)) := congrArg rho (wS_loop2)
theorem wS_loop3 {g : List Nat} {one : Bool} : wS P go (.loop g one (.rng (.cons a (.cons b (.cons c .nil)))) p) env st N T XX = wE P go a env st (fun x s => wE P go b env s (fun y s' => wE P go c env s' (fun z s' => wIn x fun i => wIn y fun j => wIn z fun k => rgcOk i j k = true ∧ wFl P go g one p (rngC i k (Builtin.Range.rangeSize i j k).toNat) env s' N T XX) (fun c fs s => XX c fs env s)) (fun c fs s => XX c fs env s)) (fun c fs s => XX c fs env s) := by
  have e : wS P go (.loop g one (.rng (.cons a (.cons b (.cons c .nil)))) p) env st N T XX = wI P go (.rng (.cons a (.cons b (.cons c .nil)))) env st (fun cur s => OX (forGo cur g one (fun e s => exS P go p e s) (turns cur s) 0 env s) N T XX) (fun c fs s => XX c fs env s) := by
    unfold wS wI; conv => lhs; unfold exS
    rw [OX_out]
  rw [e, wI_rng3]
  unfold wE; congr
@[simp ↓] theorem wS_loop3_r {g : List Nat} {one : Bool} : rho (wS P go (.loop g one (.rng (.cons a (.cons b (.cons c .nil)))) p) env st N T XX) = rho (wE P go a env st (fun x s => wE P go b env s (fun y s' => wE P go c env s' (fun z s' => wIn x fun i => wIn y fun j => wIn z fun k => rgcOk i j k = true ∧ wFl P go g one p (rngC i k (Builtin.Range.rangeSize i j k).toNat) env s' N T XX) (fun c fs s => XX c fs env s)) (fun c fs s => XX c fs env s)) (fun c fs s => XX c fs env s)) := congrArg rho (wS_loop3)
def wCur (x : Ev) (s : Store) (Q : Cur → Prop) : Prop := wOf (curOf x s) Q
theorem wI_seq {Q : Cur → Store → Prop} : wI P go (.seq a) env st Q X = wE P go a env st (fun x s => wCur x s fun cur => Q cur s) X := by
  unfold wI wE; conv => lhs; unfold evI
  rw [RX_bind]; congr; funext x s; unfold wCur; cases curOf x s <;> rfl
@[simp ↓] theorem wI_seq_r {Q : Cur → Store → Prop} : rho (wI P go (.seq a) env st Q X) = rho (wE P go a env st (fun x s => wCur x s fun cur => Q cur s) X) := congrArg rho (wI_seq)
theorem wCur_t {Q : Cur → Prop} : wCur (.t ds) s Q = Q fun _ => some ds := rfl
@[simp ↓] theorem wCur_t_r {Q : Cur → Prop} : rho (wCur (.t ds) s Q) = rho (Q fun _ => some ds) := congrArg rho (wCur_t)
theorem wCur_str {x : Str} {Q : Cur → Prop} : wCur (.v (.str x)) s Q = Q fun _ => some (signs x) := rfl
@[simp ↓] theorem wCur_str_r {x : Str} {Q : Cur → Prop} : rho (wCur (.v (.str x)) s Q) = rho (Q fun _ => some (signs x)) := congrArg rho (wCur_str)
theorem wCur_tup {Q : Cur → Prop} : wCur (.v (.tup ds)) s Q = Q fun _ => some ds := rfl
@[simp ↓] theorem wCur_tup_r {Q : Cur → Prop} : rho (wCur (.v (.tup ds)) s Q) = rho (Q fun _ => some ds) := congrArg rho (wCur_tup)
theorem wCur_ro {Q : Cur → Prop} : wCur (.v (.ro ds)) s Q = Q fun _ => some ds := rfl
@[simp ↓] theorem wCur_ro_r {Q : Cur → Prop} : rho (wCur (.v (.ro ds)) s Q) = rho (Q fun _ => some ds) := congrArg rho (wCur_ro)
theorem wCur_ref {Q : Cur → Prop} : wCur (.v (.ref n)) s Q = wGet s n fun _ => Q fun s => items s (.v (.ref n)) := by
  show wOf (match s[n]? with | some (.lst _) => _ | _ => _ : Option Cur) Q = (match s[n]? with | some (.lst _) => _ | _ => _)
  cases s[n]? with
  | none => rfl
  | some cc => cases cc <;> rfl

@[simp ↓] theorem wCur_ref_r {Q : Cur → Prop} : rho (wCur (.v (.ref n)) s Q) = rho (wGet s n fun _ => Q fun s => items s (.v (.ref n))) := congrArg rho (wCur_ref)
theorem wBd_tupN {Q : Env → Prop} : wBd [] false (.tup []) env Q = Q env := rfl
@[simp ↓] theorem wBd_tupN_r {Q : Env → Prop} : rho (wBd [] false (.tup []) env Q) = rho (Q env) := congrArg rho (wBd_tupN)
theorem wBd_tupC {k : Nat} {g : List Nat} {Q : Env → Prop} : wBd (k :: g) false (.tup (d :: ds)) env Q = wBd g false (.tup ds) (env.set k (some d)) Q := rfl
@[simp ↓] theorem wBd_tupC_r {k : Nat} {g : List Nat} {Q : Env → Prop} : rho (wBd (k :: g) false (.tup (d :: ds)) env Q) = rho (wBd g false (.tup ds) (env.set k (some d)) Q) := congrArg rho (wBd_tupC)
theorem wBd_tup {g : List Nat} {Q : Env → Prop} : wBd g false (.tup ds) env Q = wOf (setAll g ds env) Q := rfl
theorem wBd_0 {y : Option D} {Q : Env → Prop} : wBd [0] true d (y :: env) Q = Q (some d :: env) := rfl
@[simp ↓] theorem wBd_0_r {y : Option D} {Q : Env → Prop} : rho (wBd [0] true d (y :: env) Q) = rho (Q (some d :: env)) := congrArg rho (wBd_0)
theorem wBd_1 {x0 : Option D} {y : Option D} {Q : Env → Prop} : wBd [1] true d (x0 :: y :: env) Q = Q (x0 :: some d :: env) := rfl
@[simp ↓] theorem wBd_1_r {x0 : Option D} {y : Option D} {Q : Env → Prop} : rho (wBd [1] true d (x0 :: y :: env) Q) = rho (Q (x0 :: some d :: env)) := congrArg rho (wBd_1)
theorem wBd_2 {x0 x1 : Option D} {y : Option D} {Q : Env → Prop} : wBd [2] true d (x0 :: x1 :: y :: env) Q = Q (x0 :: x1 :: some d :: env) := rfl
@[simp ↓] theorem wBd_2_r {x0 x1 : Option D} {y : Option D} {Q : Env → Prop} : rho (wBd [2] true d (x0 :: x1 :: y :: env) Q) = rho (Q (x0 :: x1 :: some d :: env)) := congrArg rho (wBd_2)
theorem wBd_3 {x0 x1 x2 : Option D} {y : Option D} {Q : Env → Prop} : wBd [3] true d (x0 :: x1 :: x2 :: y :: env) Q = Q (x0 :: x1 :: x2 :: some d :: env) := rfl
@[simp ↓] theorem wBd_3_r {x0 x1 x2 : Option D} {y : Option D} {Q : Env → Prop} : rho (wBd [3] true d (x0 :: x1 :: x2 :: y :: env) Q) = rho (Q (x0 :: x1 :: x2 :: some d :: env)) := congrArg rho (wBd_3)
theorem wBd_4 {x0 x1 x2 x3 : Option D} {y : Option D} {Q : Env → Prop} : wBd [4] true d (x0 :: x1 :: x2 :: x3 :: y :: env) Q = Q (x0 :: x1 :: x2 :: x3 :: some d :: env) := rfl
@[simp ↓] theorem wBd_4_r {x0 x1 x2 x3 : Option D} {y : Option D} {Q : Env → Prop} : rho (wBd [4] true d (x0 :: x1 :: x2 :: x3 :: y :: env) Q) = rho (Q (x0 :: x1 :: x2 :: x3 :: some d :: env)) := congrArg rho (wBd_4)
theorem wBd_5 {x0 x1 x2 x3 x4 : Option D} {y : Option D} {Q : Env → Prop} : wBd [5] true d (x0 :: x1 :: x2 :: x3 :: x4 :: y :: env) Q = Q (x0 :: x1 :: x2 :: x3 :: x4 :: some d :: env) := rfl
@[simp ↓] theorem wBd_5_r {x0 x1 x2 x3 x4 : Option D} {y : Option D} {Q : Env → Prop} : rho (wBd [5] true d (x0 :: x1 :: x2 :: x3 :: x4 :: y :: env) Q) = rho (Q (x0 :: x1 :: x2 :: x3 :: x4 :: some d :: env)) := congrArg rho (wBd_5)
theorem wBd_6 {x0 x1 x2 x3 x4 x5 : Option D} {y : Option D} {Q : Env → Prop} : wBd [6] true d (x0 :: x1 :: x2 :: x3 :: x4 :: x5 :: y :: env) Q = Q (x0 :: x1 :: x2 :: x3 :: x4 :: x5 :: some d :: env) := rfl
@[simp ↓] theorem wBd_6_r {x0 x1 x2 x3 x4 x5 : Option D} {y : Option D} {Q : Env → Prop} : rho (wBd [6] true d (x0 :: x1 :: x2 :: x3 :: x4 :: x5 :: y :: env) Q) = rho (Q (x0 :: x1 :: x2 :: x3 :: x4 :: x5 :: some d :: env)) := congrArg rho (wBd_6)
theorem wBd_7 {x0 x1 x2 x3 x4 x5 x6 : Option D} {y : Option D} {Q : Env → Prop} : wBd [7] true d (x0 :: x1 :: x2 :: x3 :: x4 :: x5 :: x6 :: y :: env) Q = Q (x0 :: x1 :: x2 :: x3 :: x4 :: x5 :: x6 :: some d :: env) := rfl
@[simp ↓] theorem wBd_7_r {x0 x1 x2 x3 x4 x5 x6 : Option D} {y : Option D} {Q : Env → Prop} : rho (wBd [7] true d (x0 :: x1 :: x2 :: x3 :: x4 :: x5 :: x6 :: y :: env) Q) = rho (Q (x0 :: x1 :: x2 :: x3 :: x4 :: x5 :: x6 :: some d :: env)) := congrArg rho (wBd_7)
theorem wBd_8 {x0 x1 x2 x3 x4 x5 x6 x7 : Option D} {y : Option D} {Q : Env → Prop} : wBd [8] true d (x0 :: x1 :: x2 :: x3 :: x4 :: x5 :: x6 :: x7 :: y :: env) Q = Q (x0 :: x1 :: x2 :: x3 :: x4 :: x5 :: x6 :: x7 :: some d :: env) := rfl
@[simp ↓] theorem wBd_8_r {x0 x1 x2 x3 x4 x5 x6 x7 : Option D} {y : Option D} {Q : Env → Prop} : rho (wBd [8] true d (x0 :: x1 :: x2 :: x3 :: x4 :: x5 :: x6 :: x7 :: y :: env) Q) = rho (Q (x0 :: x1 :: x2 :: x3 :: x4 :: x5 :: x6 :: x7 :: some d :: env)) := congrArg rho (wBd_8)
theorem wBd_9 {x0 x1 x2 x3 x4 x5 x6 x7 x8 : Option D} {y : Option D} {Q : Env → Prop} : wBd [9] true d (x0 :: x1 :: x2 :: x3 :: x4 :: x5 :: x6 :: x7 :: x8 :: y :: env) Q = Q (x0 :: x1 :: x2 :: x3 :: x4 :: x5 :: x6 :: x7 :: x8 :: some d :: env) := rfl
@[simp ↓] theorem wBd_9_r {x0 x1 x2 x3 x4 x5 x6 x7 x8 : Option D} {y : Option D} {Q : Env → Prop} : rho (wBd [9] true d (x0 :: x1 :: x2 :: x3 :: x4 :: x5 :: x6 :: x7 :: x8 :: y :: env) Q) = rho (Q (x0 :: x1 :: x2 :: x3 :: x4 :: x5 :: x6 :: x7 :: x8 :: some d :: env)) := congrArg rho (wBd_9)
theorem wBd_10 {x0 x1 x2 x3 x4 x5 x6 x7 x8 x9 : Option D} {y : Option D} {Q : Env → Prop} : wBd [10] true d (x0 :: x1 :: x2 :: x3 :: x4 :: x5 :: x6 :: x7 :: x8 :: x9 :: y :: env) Q = Q (x0 :: x1 :: x2 :: x3 :: x4 :: x5 :: x6 :: x7 :: x8 :: x9 :: some d :: env) := rfl
@[simp ↓] theorem wBd_10_r {x0 x1 x2 x3 x4 x5 x6 x7 x8 x9 : Option D} {y : Option D} {Q : Env → Prop} : rho (wBd [10] true d (x0 :: x1 :: x2 :: x3 :: x4 :: x5 :: x6 :: x7 :: x8 :: x9 :: y :: env) Q) = rho (Q (x0 :: x1 :: x2 :: x3 :: x4 :: x5 :: x6 :: x7 :: x8 :: x9 :: some d :: env)) := congrArg rho (wBd_10)
theorem wBd_11 {x0 x1 x2 x3 x4 x5 x6 x7 x8 x9 x10 : Option D} {y : Option D} {Q : Env → Prop} : wBd [11] true d (x0 :: x1 :: x2 :: x3 :: x4 :: x5 :: x6 :: x7 :: x8 :: x9 :: x10 :: y :: env) Q = Q (x0 :: x1 :: x2 :: x3 :: x4 :: x5 :: x6 :: x7 :: x8 :: x9 :: x10 :: some d :: env) := rfl
@[simp ↓] theorem wBd_11_r {x0 x1 x2 x3 x4 x5 x6 x7 x8 x9 x10 : Option D} {y : Option D} {Q : Env → Prop} : rho (wBd [11] true d (x0 :: x1 :: x2 :: x3 :: x4 :: x5 :: x6 :: x7 :: x8 :: x9 :: x10 :: y :: env) Q) = rho (Q (x0 :: x1 :: x2 :: x3 :: x4 :: x5 :: x6 :: x7 :: x8 :: x9 :: x10 :: some d :: env)) := congrArg rho (wBd_11)
theorem wBd_12 {x0 x1 x2 x3 x4 x5 x6 x7 x8 x9 x10 x11 : Option D} {y : Option D} {Q : Env → Prop} : wBd [12] true d (x0 :: x1 :: x2 :: x3 :: x4 :: x5 :: x6 :: x7 :: x8 :: x9 :: x10 :: x11 :: y :: env) Q = Q (x0 :: x1 :: x2 :: x3 :: x4 :: x5 :: x6 :: x7 :: x8 :: x9 :: x10 :: x11 :: some d :: env) := rfl
@[simp ↓] theorem wBd_12_r {x0 x1 x2 x3 x4 x5 x6 x7 x8 x9 x10 x11 : Option D} {y : Option D} {Q : Env → Prop} : rho (wBd [12] true d (x0 :: x1 :: x2 :: x3 :: x4 :: x5 :: x6 :: x7 :: x8 :: x9 :: x10 :: x11 :: y :: env) Q) = rho (Q (x0 :: x1 :: x2 :: x3 :: x4 :: x5 :: x6 :: x7 :: x8 :: x9 :: x10 :: x11 :: some d :: env)) := congrArg rho (wBd_12)
theorem wBd_13 {x0 x1 x2 x3 x4 x5 x6 x7 x8 x9 x10 x11 x12 : Option D} {y : Option D} {Q : Env → Prop} : wBd [13] true d (x0 :: x1 :: x2 :: x3 :: x4 :: x5 :: x6 :: x7 :: x8 :: x9 :: x10 :: x11 :: x12 :: y :: env) Q = Q (x0 :: x1 :: x2 :: x3 :: x4 :: x5 :: x6 :: x7 :: x8 :: x9 :: x10 :: x11 :: x12 :: some d :: env) := rfl
@[simp ↓] theorem wBd_13_r {x0 x1 x2 x3 x4 x5 x6 x7 x8 x9 x10 x11 x12 : Option D} {y : Option D} {Q : Env → Prop} : rho (wBd [13] true d (x0 :: x1 :: x2 :: x3 :: x4 :: x5 :: x6 :: x7 :: x8 :: x9 :: x10 :: x11 :: x12 :: y :: env) Q) = rho (Q (x0 :: x1 :: x2 :: x3 :: x4 :: x5 :: x6 :: x7 :: x8 :: x9 :: x10 :: x11 :: x12 :: some d :: env)) := congrArg rho (wBd_13)
theorem wBd_14 {x0 x1 x2 x3 x4 x5 x6 x7 x8 x9 x10 x11 x12 x13 : Option D} {y : Option D} {Q : Env → Prop} : wBd [14] true d (x0 :: x1 :: x2 :: x3 :: x4 :: x5 :: x6 :: x7 :: x8 :: x9 :: x10 :: x11 :: x12 :: x13 :: y :: env) Q = Q (x0 :: x1 :: x2 :: x3 :: x4 :: x5 :: x6 :: x7 :: x8 :: x9 :: x10 :: x11 :: x12 :: x13 :: some d :: env) := rfl
@[simp ↓] theorem wBd_14_r {x0 x1 x2 x3 x4 x5 x6 x7 x8 x9 x10 x11 x12 x13 : Option D} {y : Option D} {Q : Env → Prop} : rho (wBd [14] true d (x0 :: x1 :: x2 :: x3 :: x4 :: x5 :: x6 :: x7 :: x8 :: x9 :: x10 :: x11 :: x12 :: x13 :: y :: env) Q) = rho (Q (x0 :: x1 :: x2 :: x3 :: x4 :: x5 :: x6 :: x7 :: x8 :: x9 :: x10 :: x11 :: x12 :: x13 :: some d :: env)) := congrArg rho (wBd_14)
theorem wBd_15 {x0 x1 x2 x3 x4 x5 x6 x7 x8 x9 x10 x11 x12 x13 x14 : Option D} {y : Option D} {Q : Env → Prop} : wBd [15] true d (x0 :: x1 :: x2 :: x3 :: x4 :: x5 :: x6 :: x7 :: x8 :: x9 :: x10 :: x11 :: x12 :: x13 :: x14 :: y :: env) Q = Q (x0 :: x1 :: x2 :: x3 :: x4 :: x5 :: x6 :: x7 :: x8 :: x9 :: x10 :: x11 :: x12 :: x13 :: x14 :: some d :: env) := rfl
@[simp ↓] theorem wBd_15_r {x0 x1 x2 x3 x4 x5 x6 x7 x8 x9 x10 x11 x12 x13 x14 : Option D} {y : Option D} {Q : Env → Prop} : rho (wBd [15] true d (x0 :: x1 :: x2 :: x3 :: x4 :: x5 :: x6 :: x7 :: x8 :: x9 :: x10 :: x11 :: x12 :: x13 :: x14 :: y :: env) Q) = rho (Q (x0 :: x1 :: x2 :: x3 :: x4 :: x5 :: x6 :: x7 :: x8 :: x9 :: x10 :: x11 :: x12 :: x13 :: x14 :: some d :: env)) := congrArg rho (wBd_15)
theorem wBd_16 {x0 x1 x2 x3 x4 x5 x6 x7 x8 x9 x10 x11 x12 x13 x14 x15 : Option D} {y : Option D} {Q : Env → Prop} : wBd [16] true d (x0 :: x1 :: x2 :: x3 :: x4 :: x5 :: x6 :: x7 :: x8 :: x9 :: x10 :: x11 :: x12 :: x13 :: x14 :: x15 :: y :: env) Q = Q (x0 :: x1 :: x2 :: x3 :: x4 :: x5 :: x6 :: x7 :: x8 :: x9 :: x10 :: x11 :: x12 :: x13 :: x14 :: x15 :: some d :: env) := rfl
@[simp ↓] theorem wBd_16_r {x0 x1 x2 x3 x4 x5 x6 x7 x8 x9 x10 x11 x12 x13 x14 x15 : Option D} {y : Option D} {Q : Env → Prop} : rho (wBd [16] true d (x0 :: x1 :: x2 :: x3 :: x4 :: x5 :: x6 :: x7 :: x8 :: x9 :: x10 :: x11 :: x12 :: x13 :: x14 :: x15 :: y :: env) Q) = rho (Q (x0 :: x1 :: x2 :: x3 :: x4 :: x5 :: x6 :: x7 :: x8 :: x9 :: x10 :: x11 :: x12 :: x13 :: x14 :: x15 :: some d :: env)) := congrArg rho (wBd_16)
theorem wBd_17 {x0 x1 x2 x3 x4 x5 x6 x7 x8 x9 x10 x11 x12 x13 x14 x15 x16 : Option D} {y : Option D} {Q : Env → Prop} : wBd [17] true d (x0 :: x1 :: x2 :: x3 :: x4 :: x5 :: x6 :: x7 :: x8 :: x9 :: x10 :: x11 :: x12 :: x13 :: x14 :: x15 :: x16 :: y :: env) Q = Q (x0 :: x1 :: x2 :: x3 :: x4 :: x5 :: x6 :: x7 :: x8 :: x9 :: x10 :: x11 :: x12 :: x13 :: x14 :: x15 :: x16 :: some d :: env) := rfl
@[simp ↓] theorem wBd_17_r {x0 x1 x2 x3 x4 x5 x6 x7 x8 x9 x10 x11 x12 x13 x14 x15 x16 : Option D} {y : Option D} {Q : Env → Prop} : rho (wBd [17] true d (x0 :: x1 :: x2 :: x3 :: x4 :: x5 :: x6 :: x7 :: x8 :: x9 :: x10 :: x11 :: x12 :: x13 :: x14 :: x15 :: x16 :: y :: env) Q) = rho (Q (x0 :: x1 :: x2 :: x3 :: x4 :: x5 :: x6 :: x7 :: x8 :: x9 :: x10 :: x11 :: x12 :: x13 :: x14 :: x15 :: x16 :: some d :: env)) := congrArg rho (wBd_17)
theorem wBd_18 {x0 x1 x2 x3 x4 x5 x6 x7 x8 x9 x10 x11 x12 x13 x14 x15 x16 x17 : Option D} {y : Option D} {Q : Env → Prop} : wBd [18] true d (x0 :: x1 :: x2 :: x3 :: x4 :: x5 :: x6 :: x7 :: x8 :: x9 :: x10 :: x11 :: x12 :: x13 :: x14 :: x15 :: x16 :: x17 :: y :: env) Q = Q (x0 :: x1 :: x2 :: x3 :: x4 :: x5 :: x6 :: x7 :: x8 :: x9 :: x10 :: x11 :: x12 :: x13 :: x14 :: x15 :: x16 :: x17 :: some d :: env) := rfl
@[simp ↓] theorem wBd_18_r {x0 x1 x2 x3 x4 x5 x6 x7 x8 x9 x10 x11 x12 x13 x14 x15 x16 x17 : Option D} {y : Option D} {Q : Env → Prop} : rho (wBd [18] true d (x0 :: x1 :: x2 :: x3 :: x4 :: x5 :: x6 :: x7 :: x8 :: x9 :: x10 :: x11 :: x12 :: x13 :: x14 :: x15 :: x16 :: x17 :: y :: env) Q) = rho (Q (x0 :: x1 :: x2 :: x3 :: x4 :: x5 :: x6 :: x7 :: x8 :: x9 :: x10 :: x11 :: x12 :: x13 :: x14 :: x15 :: x16 :: x17 :: some d :: env)) := congrArg rho (wBd_18)
theorem wBd_19 {x0 x1 x2 x3 x4 x5 x6 x7 x8 x9 x10 x11 x12 x13 x14 x15 x16 x17 x18 : Option D} {y : Option D} {Q : Env → Prop} : wBd [19] true d (x0 :: x1 :: x2 :: x3 :: x4 :: x5 :: x6 :: x7 :: x8 :: x9 :: x10 :: x11 :: x12 :: x13 :: x14 :: x15 :: x16 :: x17 :: x18 :: y :: env) Q = Q (x0 :: x1 :: x2 :: x3 :: x4 :: x5 :: x6 :: x7 :: x8 :: x9 :: x10 :: x11 :: x12 :: x13 :: x14 :: x15 :: x16 :: x17 :: x18 :: some d :: env) := rfl
@[simp ↓] theorem wBd_19_r {x0 x1 x2 x3 x4 x5 x6 x7 x8 x9 x10 x11 x12 x13 x14 x15 x16 x17 x18 : Option D} {y : Option D} {Q : Env → Prop} : rho (wBd [19] true d (x0 :: x1 :: x2 :: x3 :: x4 :: x5 :: x6 :: x7 :: x8 :: x9 :: x10 :: x11 :: x12 :: x13 :: x14 :: x15 :: x16 :: x17 :: x18 :: y :: env) Q) = rho (Q (x0 :: x1 :: x2 :: x3 :: x4 :: x5 :: x6 :: x7 :: x8 :: x9 :: x10 :: x11 :: x12 :: x13 :: x14 :: x15 :: x16 :: x17 :: x18 :: some d :: env)) := congrArg rho (wBd_19)
theorem wBd_20 {x0 x1 x2 x3 x4 x5 x6 x7 x8 x9 x10 x11 x12 x13 x14 x15 x16 x17 x18 x19 : Option D} {y : Option D} {Q : Env → Prop} : wBd [20] true d (x0 :: x1 :: x2 :: x3 :: x4 :: x5 :: x6 :: x7 :: x8 :: x9 :: x10 :: x11 :: x12 :: x13 :: x14 :: x15 :: x16 :: x17 :: x18 :: x19 :: y :: env) Q = Q (x0 :: x1 :: x2 :: x3 :: x4 :: x5 :: x6 :: x7 :: x8 :: x9 :: x10 :: x11 :: x12 :: x13 :: x14 :: x15 :: x16 :: x17 :: x18 :: x19 :: some d :: env) := rfl
@[simp ↓] theorem wBd_20_r {x0 x1 x2 x3 x4 x5 x6 x7 x8 x9 x10 x11 x12 x13 x14 x15 x16 x17 x18 x19 : Option D} {y : Option D} {Q : Env → Prop} : rho (wBd [20] true d (x0 :: x1 :: x2 :: x3 :: x4 :: x5 :: x6 :: x7 :: x8 :: x9 :: x10 :: x11 :: x12 :: x13 :: x14 :: x15 :: x16 :: x17 :: x18 :: x19 :: y :: env) Q) = rho (Q (x0 :: x1 :: x2 :: x3 :: x4 :: x5 :: x6 :: x7 :: x8 :: x9 :: x10 :: x11 :: x12 :: x13 :: x14 :: x15 :: x16 :: x17 :: x18 :: x19 :: some d :: env)) := congrArg rho (wBd_20)
theorem wBd_21 {x0 x1 x2 x3 x4 x5 x6 x7 x8 x9 x10 x11 x12 x13 x14 x15 x16 x17 x18 x19 x20 : Option D} {y : Option D} {Q : Env → Prop} : wBd [21] true d (x0 :: x1 :: x2 :: x3 :: x4 :: x5 :: x6 :: x7 :: x8 :: x9 :: x10 :: x11 :: x12 :: x13 :: x14 :: x15 :: x16 :: x17 :: x18 :: x19 :: x20 :: y :: env) Q = Q (x0 :: x1 :: x2 :: x3 :: x4 :: x5 :: x6 :: x7 :: x8 :: x9 :: x10 :: x11 :: x12 :: x13 :: x14 :: x15 :: x16 :: x17 :: x18 :: x19 :: x20 :: some d :: env) := rfl
@[simp ↓] theorem wBd_21_r {x0 x1 x2 x3 x4 x5 x6 x7 x8 x9 x10 x11 x12 x13 x14 x15 x16 x17 x18 x19 x20 : Option D} {y : Option D} {Q : Env → Prop} : rho (wBd [21] true d (x0 :: x1 :: x2 :: x3 :: x4 :: x5 :: x6 :: x7 :: x8 :: x9 :: x10 :: x11 :: x12 :: x13 :: x14 :: x15 :: x16 :: x17 :: x18 :: x19 :: x20 :: y :: env) Q) = rho (Q (x0 :: x1 :: x2 :: x3 :: x4 :: x5 :: x6 :: x7 :: x8 :: x9 :: x10 :: x11 :: x12 :: x13 :: x14 :: x15 :: x16 :: x17 :: x18 :: x19 :: x20 :: some d :: env)) := congrArg rho (wBd_21)
theorem wBd_22 {x0 x1 x2 x3 x4 x5 x6 x7 x8 x9 x10 x11 x12 x13 x14 x15 x16 x17 x18 x19 x20 x21 : Option D} {y : Option D} {Q : Env → Prop} : wBd [22] true d (x0 :: x1 :: x2 :: x3 :: x4 :: x5 :: x6 :: x7 :: x8 :: x9 :: x10 :: x11 :: x12 :: x13 :: x14 :: x15 :: x16 :: x17 :: x18 :: x19 :: x20 :: x21 :: y :: env) Q = Q (x0 :: x1 :: x2 :: x3 :: x4 :: x5 :: x6 :: x7 :: x8 :: x9 :: x10 :: x11 :: x12 :: x13 :: x14 :: x15 :: x16 :: x17 :: x18 :: x19 :: x20 :: x21 :: some d :: env) := rfl
@[simp ↓] theorem wBd_22_r {x0 x1 x2 x3 x4 x5 x6 x7 x8 x9 x10 x11 x12 x13 x14 x15 x16 x17 x18 x19 x20 x21 : Option D} {y : Option D} {Q : Env → Prop} : rho (wBd [22] true d (x0 :: x1 :: x2 :: x3 :: x4 :: x5 :: x6 :: x7 :: x8 :: x9 :: x10 :: x11 :: x12 :: x13 :: x14 :: x15 :: x16 :: x17 :: x18 :: x19 :: x20 :: x21 :: y :: env) Q) = rho (Q (x0 :: x1 :: x2 :: x3 :: x4 :: x5 :: x6 :: x7 :: x8 :: x9 :: x10 :: x11 :: x12 :: x13 :: x14 :: x15 :: x16 :: x17 :: x18 :: x19 :: x20 :: x21 :: some d :: env)) := congrArg rho (wBd_22)
theorem wBd_23 {x0 x1 x2 x3 x4 x5 x6 x7 x8 x9 x10 x11 x12 x13 x14 x15 x16 x17 x18 x19 x20 x21 x22 : Option D} {y : Option D} {Q : Env → Prop} : wBd [23] true d (x0 :: x1 :: x2 :: x3 :: x4 :: x5 :: x6 :: x7 :: x8 :: x9 :: x10 :: x11 :: x12 :: x13 :: x14 :: x15 :: x16 :: x17 :: x18 :: x19 :: x20 :: x21 :: x22 :: y :: env) Q = Q (x0 :: x1 :: x2 :: x3 :: x4 :: x5 :: x6 :: x7 :: x8 :: x9 :: x10 :: x11 :: x12 :: x13 :: x14 :: x15 :: x16 :: x17 :: x18 :: x19 :: x20 :: x21 :: x22 :: some d :: env) := rfl
@[simp ↓] theorem wBd_23_r {x0 x1 x2 x3 x4 x5 x6 x7 x8 x9 x10 x11 x12 x13 x14 x15 x16 x17 x18 x19 x20 x21 x22 : Option D} {y : Option D} {Q : Env → Prop} : rho (wBd [23] true d (x0 :: x1 :: x2 :: x3 :: x4 :: x5 :: x6 :: x7 :: x8 :: x9 :: x10 :: x11 :: x12 :: x13 :: x14 :: x15 :: x16 :: x17 :: x18 :: x19 :: x20 :: x21 :: x22 :: y :: env) Q) = rho (Q (x0 :: x1 :: x2 :: x3 :: x4 :: x5 :: x6 :: x7 :: x8 :: x9 :: x10 :: x11 :: x12 :: x13 :: x14 :: x15 :: x16 :: x17 :: x18 :: x19 :: x20 :: x21 :: x22 :: some d :: env)) := congrArg rho (wBd_23)
theorem wBd_24 {x0 x1 x2 x3 x4 x5 x6 x7 x8 x9 x10 x11 x12 x13 x14 x15 x16 x17 x18 x19 x20 x21 x22 x23 : Option D} {y : Option D} {Q : Env → Prop} : wBd [24] true d (x0 :: x1 :: x2 :: x3 :: x4 :: x5 :: x6 :: x7 :: x8 :: x9 :: x10 :: x11 :: x12 :: x13 :: x14 :: x15 :: x16 :: x17 :: x18 :: x19 :: x20 :: x21 :: x22 :: x23 :: y :: env) Q = Q (x0 :: x1 :: x2 :: x3 :: x4 :: x5 :: x6 :: x7 :: x8 :: x9 :: x10 :: x11 :: x12 :: x13 :: x14 :: x15 :: x16 :: x17 :: x18 :: x19 :: x20 :: x21 :: x22 :: x23 :: some d :: env) := rfl
@[simp ↓] theorem wBd_24_r {x0 x1 x2 x3 x4 x5 x6 x7 x8 x9 x10 x11 x12 x13 x14 x15 x16 x17 x18 x19 x20 x21 x22 x23 : Option D} {y : Option D} {Q : Env → Prop} : rho (wBd [24] true d (x0 :: x1 :: x2 :: x3 :: x4 :: x5 :: x6 :: x7 :: x8 :: x9 :: x10 :: x11 :: x12 :: x13 :: x14 :: x15 :: x16 :: x17 :: x18 :: x19 :: x20 :: x21 :: x22 :: x23 :: y :: env) Q) = rho (Q (x0 :: x1 :: x2 :: x3 :: x4 :: x5 :: x6 :: x7 :: x8 :: x9 :: x10 :: x11 :: x12 :: x13 :: x14 :: x15 :: x16 :: x17 :: x18 :: x19 :: x20 :: x21 :: x22 :: x23 :: some d :: env)) := congrArg rho (wBd_24)
theorem wBd_25 {x0 x1 x2 x3 x4 x5 x6 x7 x8 x9 x10 x11 x12 x13 x14 x15 x16 x17 x18 x19 x20 x21 x22 x23 x24 : Option D} {y : Option D} {Q : Env → Prop} : wBd [25] true d (x0 :: x1 :: x2 :: x3 :: x4 :: x5 :: x6 :: x7 :: x8 :: x9 :: x10 :: x11 :: x12 :: x13 :: x14 :: x15 :: x16 :: x17 :: x18 :: x19 :: x20 :: x21 :: x22 :: x23 :: x24 :: y :: env) Q = Q (x0 :: x1 :: x2 :: x3 :: x4 :: x5 :: x6 :: x7 :: x8 :: x9 :: x10 :: x11 :: x12 :: x13 :: x14 :: x15 :: x16 :: x17 :: x18 :: x19 :: x20 :: x21 :: x22 :: x23 :: x24 :: some d :: env) := rfl
@[simp ↓] theorem wBd_25_r {x0 x1 x2 x3 x4 x5 x6 x7 x8 x9 x10 x11 x12 x13 x14 x15 x16 x17 x18 x19 x20 x21 x22 x23 x24 : Option D} {y : Option D} {Q : Env → Prop} : rho (wBd [25] true d (x0 :: x1 :: x2 :: x3 :: x4 :: x5 :: x6 :: x7 :: x8 :: x9 :: x10 :: x11 :: x12 :: x13 :: x14 :: x15 :: x16 :: x17 :: x18 :: x19 :: x20 :: x21 :: x22 :: x23 :: x24 :: y :: env) Q) = rho (Q (x0 :: x1 :: x2 :: x3 :: x4 :: x5 :: x6 :: x7 :: x8 :: x9 :: x10 :: x11 :: x12 :: x13 :: x14 :: x15 :: x16 :: x17 :: x18 :: x19 :: x20 :: x21 :: x22 :: x23 :: x24 :: some d :: env)) := congrArg rho (wBd_25)
theorem wBd_26 {x0 x1 x2 x3 x4 x5 x6 x7 x8 x9 x10 x11 x12 x13 x14 x15 x16 x17 x18 x19 x20 x21 x22 x23 x24 x25 : Option D} {y : Option D} {Q : Env → Prop} : wBd [26] true d (x0 :: x1 :: x2 :: x3 :: x4 :: x5 :: x6 :: x7 :: x8 :: x9 :: x10 :: x11 :: x12 :: x13 :: x14 :: x15 :: x16 :: x17 :: x18 :: x19 :: x20 :: x21 :: x22 :: x23 :: x24 :: x25 :: y :: env) Q = Q (x0 :: x1 :: x2 :: x3 :: x4 :: x5 :: x6 :: x7 :: x8 :: x9 :: x10 :: x11 :: x12 :: x13 :: x14 :: x15 :: x16 :: x17 :: x18 :: x19 :: x20 :: x21 :: x22 :: x23 :: x24 :: x25 :: some d :: env) := rfl
@[simp ↓] theorem wBd_26_r {x0 x1 x2 x3 x4 x5 x6 x7 x8 x9 x10 x11 x12 x13 x14 x15 x16 x17 x18 x19 x20 x21 x22 x23 x24 x25 : Option D} {y : Option D} {Q : Env → Prop} : rho (wBd [26] true d (x0 :: x1 :: x2 :: x3 :: x4 :: x5 :: x6 :: x7 :: x8 :: x9 :: x10 :: x11 :: x12 :: x13 :: x14 :: x15 :: x16 :: x17 :: x18 :: x19 :: x20 :: x21 :: x22 :: x23 :: x24 :: x25 :: y :: env) Q) = rho (Q (x0 :: x1 :: x2 :: x3 :: x4 :: x5 :: x6 :: x7 :: x8 :: x9 :: x10 :: x11 :: x12 :: x13 :: x14 :: x15 :: x16 :: x17 :: x18 :: x19 :: x20 :: x21 :: x22 :: x23 :: x24 :: x25 :: some d :: env)) := congrArg rho (wBd_26)
theorem wBd_27 {x0 x1 x2 x3 x4 x5 x6 x7 x8 x9 x10 x11 x12 x13 x14 x15 x16 x17 x18 x19 x20 x21 x22 x23 x24 x25 x26 : Option D} {y : Option D} {Q : Env → Prop} : wBd [27] true d (x0 :: x1 :: x2 :: x3 :: x4 :: x5 :: x6 :: x7 :: x8 :: x9 :: x10 :: x11 :: x12 :: x13 :: x14 :: x15 :: x16 :: x17 :: x18 :: x19 :: x20 :: x21 :: x22 :: x23 :: x24 :: x25 :: x26 :: y :: env) Q = Q (x0 :: x1 :: x2 :: x3 :: x4 :: x5 :: x6 :: x7 :: x8 :: x9 :: x10 :: x11 :: x12 :: x13 :: x14 :: x15 :: x16 :: x17 :: x18 :: x19 :: x20 :: x21 :: x22 :: x23 :: x24 :: x25 :: x26 :: some d :: env) := rfl
@[simp ↓] theorem wBd_27_r {x0 x1 x2 x3 x4 x5 x6 x7 x8 x9 x10 x11 x12 x13 x14 x15 x16 x17 x18 x19 x20 x21 x22 x23 x24 x25 x26 : Option D} {y : Option D} {Q : Env → Prop} : rho (wBd [27] true d (x0 :: x1 :: x2 :: x3 :: x4 :: x5 :: x6 :: x7 :: x8 :: x9 :: x10 :: x11 :: x12 :: x13 :: x14 :: x15 :: x16 :: x17 :: x18 :: x19 :: x20 :: x21 :: x22 :: x23 :: x24 :: x25 :: x26 :: y :: env) Q) = rho (Q (x0 :: x1 :: x2 :: x3 :: x4 :: x5 :: x6 :: x7 :: x8 :: x9 :: x10 :: x11 :: x12 :: x13 :: x14 :: x15 :: x16 :: x17 :: x18 :: x19 :: x20 :: x21 :: x22 :: x23 :: x24 :: x25 :: x26 :: some d :: env)) := congrArg rho (wBd_27)
theorem wBd_28 {x0 x1 x2 x3 x4 x5 x6 x7 x8 x9 x10 x11 x12 x13 x14 x15 x16 x17 x18 x19 x20 x21 x22 x23 x24 x25 x26 x27 : Option D} {y : Option D} {Q : Env → Prop} : wBd [28] true d (x0 :: x1 :: x2 :: x3 :: x4 :: x5 :: x6 :: x7 :: x8 :: x9 :: x10 :: x11 :: x12 :: x13 :: x14 :: x15 :: x16 :: x17 :: x18 :: x19 :: x20 :: x21 :: x22 :: x23 :: x24 :: x25 :: x26 :: x27 :: y :: env) Q = Q (x0 :: x1 :: x2 :: x3 :: x4 :: x5 :: x6 :: x7 :: x8 :: x9 :: x10 :: x11 :: x12 :: x13 :: x14 :: x15 :: x16 :: x17 :: x18 :: x19 :: x20 :: x21 :: x22 :: x23 :: x24 :: x25 :: x26 :: x27 :: some d :: env) := rfl
@[simp ↓] theorem wBd_28_r {x0 x1 x2 x3 x4 x5 x6 x7 x8 x9 x10 x11 x12 x13 x14 x15 x16 x17 x18 x19 x20 x21 x22 x23 x24 x25 x26 x27 : Option D} {y : Option D} {Q : Env → Prop} : rho (wBd [28] true d (x0 :: x1 :: x2 :: x3 :: x4 :: x5 :: x6 :: x7 :: x8 :: x9 :: x10 :: x11 :: x12 :: x13 :: x14 :: x15 :: x16 :: x17 :: x18 :: x19 :: x20 :: x21 :: x22 :: x23 :: x24 :: x25 :: x26 :: x27 :: y :: env) Q) = rho (Q (x0 :: x1 :: x2 :: x3 :: x4 :: x5 :: x6 :: x7 :: x8 :: x9 :: x10 :: x11 :: x12 :: x13 :: x14 :: x15 :: x16 :: x17 :: x18 :: x19 :: x20 :: x21 :: x22 :: x23 :: x24 :: x25 :: x26 :: x27 :: some d :: env)) := congrArg rho (wBd_28)
theorem wBd_29 {x0 x1 x2 x3 x4 x5 x6 x7 x8 x9 x10 x11 x12 x13 x14 x15 x16 x17 x18 x19 x20 x21 x22 x23 x24 x25 x26 x27 x28 : Option D} {y : Option D} {Q : Env → Prop} : wBd [29] true d (x0 :: x1 :: x2 :: x3 :: x4 :: x5 :: x6 :: x7 :: x8 :: x9 :: x10 :: x11 :: x12 :: x13 :: x14 :: x15 :: x16 :: x17 :: x18 :: x19 :: x20 :: x21 :: x22 :: x23 :: x24 :: x25 :: x26 :: x27 :: x28 :: y :: env) Q = Q (x0 :: x1 :: x2 :: x3 :: x4 :: x5 :: x6 :: x7 :: x8 :: x9 :: x10 :: x11 :: x12 :: x13 :: x14 :: x15 :: x16 :: x17 :: x18 :: x19 :: x20 :: x21 :: x22 :: x23 :: x24 :: x25 :: x26 :: x27 :: x28 :: some d :: env) := rfl
@[simp ↓] theorem wBd_29_r {x0 x1 x2 x3 x4 x5 x6 x7 x8 x9 x10 x11 x12 x13 x14 x15 x16 x17 x18 x19 x20 x21 x22 x23 x24 x25 x26 x27 x28 : Option D} {y : Option D} {Q : Env → Prop} : rho (wBd [29] true d (x0 :: x1 :: x2 :: x3 :: x4 :: x5 :: x6 :: x7 :: x8 :: x9 :: x10 :: x11 :: x12 :: x13 :: x14 :: x15 :: x16 :: x17 :: x18 :: x19 :: x20 :: x21 :: x22 :: x23 :: x24 :: x25 :: x26 :: x27 :: x28 :: y :: env) Q) = rho (Q (x0 :: x1 :: x2 :: x3 :: x4 :: x5 :: x6 :: x7 :: x8 :: x9 :: x10 :: x11 :: x12 :: x13 :: x14 :: x15 :: x16 :: x17 :: x18 :: x19 :: x20 :: x21 :: x22 :: x23 :: x24 :: x25 :: x26 :: x27 :: x28 :: some d :: env)) := congrArg rho (wBd_29)
theorem wBd_30 {x0 x1 x2 x3 x4 x5 x6 x7 x8 x9 x10 x11 x12 x13 x14 x15 x16 x17 x18 x19 x20 x21 x22 x23 x24 x25 x26 x27 x28 x29 : Option D} {y : Option D} {Q : Env → Prop} : wBd [30] true d (x0 :: x1 :: x2 :: x3 :: x4 :: x5 :: x6 :: x7 :: x8 :: x9 :: x10 :: x11 :: x12 :: x13 :: x14 :: x15 :: x16 :: x17 :: x18 :: x19 :: x20 :: x21 :: x22 :: x23 :: x24 :: x25 :: x26 :: x27 :: x28 :: x29 :: y :: env) Q = Q (x0 :: x1 :: x2 :: x3 :: x4 :: x5 :: x6 :: x7 :: x8 :: x9 :: x10 :: x11 :: x12 :: x13 :: x14 :: x15 :: x16 :: x17 :: x18 :: x19 :: x20 :: x21 :: x22 :: x23 :: x24 :: x25 :: x26 :: x27 :: x28 :: x29 :: some d :: env) := rfl
@[simp ↓] theorem wBd_30_r {x0 x1 x2 x3 x4 x5 x6 x7 x8 x9 x10 x11 x12 x13 x14 x15 x16 x17 x18 x19 x20 x21 x22 x23 x24 x25 x26 x27 x28 x29 : Option D} {y : Option D} {Q : Env → Prop} : rho (wBd [30] true d (x0 :: x1 :: x2 :: x3 :: x4 :: x5 :: x6 :: x7 :: x8 :: x9 :: x10 :: x11 :: x12 :: x13 :: x14 :: x15 :: x16 :: x17 :: x18 :: x19 :: x20 :: x21 :: x22 :: x23 :: x24 :: x25 :: x26 :: x27 :: x28 :: x29 :: y :: env) Q) = rho (Q (x0 :: x1 :: x2 :: x3 :: x4 :: x5 :: x6 :: x7 :: x8 :: x9 :: x10 :: x11 :: x12 :: x13 :: x14 :: x15 :: x16 :: x17 :: x18 :: x19 :: x20 :: x21 :: x22 :: x23 :: x24 :: x25 :: x26 :: x27 :: x28 :: x29 :: some d :: env)) := congrArg rho (wBd_30)
theorem wBd_31 {x0 x1 x2 x3 x4 x5 x6 x7 x8 x9 x10 x11 x12 x13 x14 x15 x16 x17 x18 x19 x20 x21 x22 x23 x24 x25 x26 x27 x28 x29 x30 : Option D} {y : Option D} {Q : Env → Prop} : wBd [31] true d (x0 :: x1 :: x2 :: x3 :: x4 :: x5 :: x6 :: x7 :: x8 :: x9 :: x10 :: x11 :: x12 :: x13 :: x14 :: x15 :: x16 :: x17 :: x18 :: x19 :: x20 :: x21 :: x22 :: x23 :: x24 :: x25 :: x26 :: x27 :: x28 :: x29 :: x30 :: y :: env) Q = Q (x0 :: x1 :: x2 :: x3 :: x4 :: x5 :: x6 :: x7 :: x8 :: x9 :: x10 :: x11 :: x12 :: x13 :: x14 :: x15 :: x16 :: x17 :: x18 :: x19 :: x20 :: x21 :: x22 :: x23 :: x24 :: x25 :: x26 :: x27 :: x28 :: x29 :: x30 :: some d :: env) := rfl
@[simp ↓] theorem wBd_31_r {x0 x1 x2 x3 x4 x5 x6 x7 x8 x9 x10 x11 x12 x13 x14 x15 x16 x17 x18 x19 x20 x21 x22 x23 x24 x25 x26 x27 x28 x29 x30 : Option D} {y : Option D} {Q : Env → Prop} : rho (wBd [31] true d (x0 :: x1 :: x2 :: x3 :: x4 :: x5 :: x6 :: x7 :: x8 :: x9 :: x10 :: x11 :: x12 :: x13 :: x14 :: x15 :: x16 :: x17 :: x18 :: x19 :: x20 :: x21 :: x22 :: x23 :: x24 :: x25 :: x26 :: x27 :: x28 :: x29 :: x30 :: y :: env) Q) = rho (Q (x0 :: x1 :: x2 :: x3 :: x4 :: x5 :: x6 :: x7 :: x8 :: x9 :: x10 :: x11 :: x12 :: x13 :: x14 :: x15 :: x16 :: x17 :: x18 :: x19 :: x20 :: x21 :: x22 :: x23 :: x24 :: x25 :: x26 :: x27 :: x28 :: x29 :: x30 :: some d :: env)) := congrArg rho (wBd_31)
theorem wBd_32 {x0 x1 x2 x3 x4 x5 x6 x7 x8 x9 x10 x11 x12 x13 x14 x15 x16 x17 x18 x19 x20 x21 x22 x23 x24 x25 x26 x27 x28 x29 x30 x31 : Option D} {y : Option D} {Q : Env → Prop} : wBd [32] true d (x0 :: x1 :: x2 :: x3 :: x4 :: x5 :: x6 :: x7 :: x8 :: x9 :: x10 :: x11 :: x12 :: x13 :: x14 :: x15 :: x16 :: x17 :: x18 :: x19 :: x20 :: x21 :: x22 :: x23 :: x24 :: x25 :: x26 :: x27 :: x28 :: x29 :: x30 :: x31 :: y :: env) Q = Q (x0 :: x1 :: x2 :: x3 :: x4 :: x5 :: x6 :: x7 :: x8 :: x9 :: x10 :: x11 :: x12 :: x13 :: x14 :: x15 :: x16 :: x17 :: x18 :: x19 :: x20 :: x21 :: x22 :: x23 :: x24 :: x25 :: x26 :: x27 :: x28 :: x29 :: x30 :: x31 :: some d :: env) := rfl
@[simp ↓] theorem wBd_32_r {x0 x1 x2 x3 x4 x5 x6 x7 x8 x9 x10 x11 x12 x13 x14 x15 x16 x17 x18 x19 x20 x21 x22 x23 x24 x25 x26 x27 x28 x29 x30 x31 : Option D} {y : Option D} {Q : Env → Prop} : rho (wBd [32] true d (x0 :: x1 :: x2 :: x3 :: x4 :: x5 :: x6 :: x7 :: x8 :: x9 :: x10 :: x11 :: x12 :: x13 :: x14 :: x15 :: x16 :: x17 :: x18 :: x19 :: x20 :: x21 :: x22 :: x23 :: x24 :: x25 :: x26 :: x27 :: x28 :: x29 :: x30 :: x31 :: y :: env) Q) = rho (Q (x0 :: x1 :: x2 :: x3 :: x4 :: x5 :: x6 :: x7 :: x8 :: x9 :: x10 :: x11 :: x12 :: x13 :: x14 :: x15 :: x16 :: x17 :: x18 :: x19 :: x20 :: x21 :: x22 :: x23 :: x24 :: x25 :: x26 :: x27 :: x28 :: x29 :: x30 :: x31 :: some d :: env)) := congrArg rho (wBd_32)
theorem wBd_33 {x0 x1 x2 x3 x4 x5 x6 x7 x8 x9 x10 x11 x12 x13 x14 x15 x16 x17 x18 x19 x20 x21 x22 x23 x24 x25 x26 x27 x28 x29 x30 x31 x32 : Option D} {y : Option D} {Q : Env → Prop} : wBd [33] true d (x0 :: x1 :: x2 :: x3 :: x4 :: x5 :: x6 :: x7 :: x8 :: x9 :: x10 :: x11 :: x12 :: x13 :: x14 :: x15 :: x16 :: x17 :: x18 :: x19 :: x20 :: x21 :: x22 :: x23 :: x24 :: x25 :: x26 :: x27 :: x28 :: x29 :: x30 :: x31 :: x32 :: y :: env) Q = Q (x0 :: x1 :: x2 :: x3 :: x4 :: x5 :: x6 :: x7 :: x8 :: x9 :: x10 :: x11 :: x12 :: x13 :: x14 :: x15 :: x16 :: x17 :: x18 :: x19 :: x20 :: x21 :: x22 :: x23 :: x24 :: x25 :: x26 :: x27 :: x28 :: x29 :: x30 :: x31 :: x32 :: some d :: env) := rfl
@[simp ↓] theorem wBd_33_r {x0 x1 x2 x3 x4 x5 x6 x7 x8 x9 x10 x11 x12 x13 x14 x15 x16 x17 x18 x19 x20 x21 x22 x23 x24 x25 x26 x27 x28 x29 x30 x31 x32 : Option D} {y : Option D} {Q : Env → Prop} : rho (wBd [33] true d (x0 :: x1 :: x2 :: x3 :: x4 :: x5 :: x6 :: x7 :: x8 :: x9 :: x10 :: x11 :: x12 :: x13 :: x14 :: x15 :: x16 :: x17 :: x18 :: x19 :: x20 :: x21 :: x22 :: x23 :: x24 :: x25 :: x26 :: x27 :: x28 :: x29 :: x30 :: x31 :: x32 :: y :: env) Q) = rho (Q (x0 :: x1 :: x2 :: x3 :: x4 :: x5 :: x6 :: x7 :: x8 :: x9 :: x10 :: x11 :: x12 :: x13 :: x14 :: x15 :: x16 :: x17 :: x18 :: x19 :: x20 :: x21 :: x22 :: x23 :: x24 :: x25 :: x26 :: x27 :: x28 :: x29 :: x30 :: x31 :: x32 :: some d :: env)) := congrArg rho (wBd_33)
theorem wBd_34 {x0 x1 x2 x3 x4 x5 x6 x7 x8 x9 x10 x11 x12 x13 x14 x15 x16 x17 x18 x19 x20 x21 x22 x23 x24 x25 x26 x27 x28 x29 x30 x31 x32 x33 : Option D} {y : Option D} {Q : Env → Prop} : wBd [34] true d (x0 :: x1 :: x2 :: x3 :: x4 :: x5 :: x6 :: x7 :: x8 :: x9 :: x10 :: x11 :: x12 :: x13 :: x14 :: x15 :: x16 :: x17 :: x18 :: x19 :: x20 :: x21 :: x22 :: x23 :: x24 :: x25 :: x26 :: x27 :: x28 :: x29 :: x30 :: x31 :: x32 :: x33 :: y :: env) Q = Q (x0 :: x1 :: x2 :: x3 :: x4 :: x5 :: x6 :: x7 :: x8 :: x9 :: x10 :: x11 :: x12 :: x13 :: x14 :: x15 :: x16 :: x17 :: x18 :: x19 :: x20 :: x21 :: x22 :: x23 :: x24 :: x25 :: x26 :: x27 :: x28 :: x29 :: x30 :: x31 :: x32 :: x33 :: some d :: env) := rfl
@[simp ↓] theorem wBd_34_r {x0 x1 x2 x3 x4 x5 x6 x7 x8 x9 x10 x11 x12 x13 x14 x15 x16 x17 x18 x19 x20 x21 x22 x23 x24 x25 x26 x27 x28 x29 x30 x31 x32 x33 : Option D} {y : Option D} {Q : Env → Prop} : rho (wBd [34] true d (x0 :: x1 :: x2 :: x3 :: x4 :: x5 :: x6 :: x7 :: x8 :: x9 :: x10 :: x11 :: x12 :: x13 :: x14 :: x15 :: x16 :: x17 :: x18 :: x19 :: x20 :: x21 :: x22 :: x23 :: x24 :: x25 :: x26 :: x27 :: x28 :: x29 :: x30 :: x31 :: x32 :: x33 :: y :: env) Q) = rho (Q (x0 :: x1 :: x2 :: x3 :: x4 :: x5 :: x6 :: x7 :: x8 :: x9 :: x10 :: x11 :: x12 :: x13 :: x14 :: x15 :: x16 :: x17 :: x18 :: x19 :: x20 :: x21 :: x22 :: x23 :: x24 :: x25 :: x26 :: x27 :: x28 :: x29 :: x30 :: x31 :: x32 :: x33 :: some d :: env)) := congrArg rho (wBd_34)
theorem wBd_35 {x0 x1 x2 x3 x4 x5 x6 x7 x8 x9 x10 x11 x12 x13 x14 x15 x16 x17 x18 x19 x20 x21 x22 x23 x24 x25 x26 x27 x28 x29 x30 x31 x32 x33 x34 : Option D} {y : Option D} {Q : Env → Prop} : wBd [35] true d (x0 :: x1 :: x2 :: x3 :: x4 :: x5 :: x6 :: x7 :: x8 :: x9 :: x10 :: x11 :: x12 :: x13 :: x14 :: x15 :: x16 :: x17 :: x18 :: x19 :: x20 :: x21 :: x22 :: x23 :: x24 :: x25 :: x26 :: x27 :: x28 :: x29 :: x30 :: x31 :: x32 :: x33 :: x34 :: y :: env) Q = Q (x0 :: x1 :: x2 :: x3 :: x4 :: x5 :: x6 :: x7 :: x8 :: x9 :: x10 :: x11 :: x12 :: x13 :: x14 :: x15 :: x16 :: x17 :: x18 :: x19 :: x20 :: x21 :: x22 :: x23 :: x24 :: x25 :: x26 :: x27 :: x28 :: x29 :: x30 :: x31 :: x32 :: x33 :: x34 :: some d :: env) := rfl
@[simp ↓] theorem wBd_35_r {x0 x1 x2 x3 x4 x5 x6 x7 x8 x9 x10 x11 x12 x13 x14 x15 x16 x17 x18 x19 x20 x21 x22 x23 x24 x25 x26 x27 x28 x29 x30 x31 x32 x33 x34 : Option D} {y : Option D} {Q : Env → Prop} : rho (wBd [35] true d (x0 :: x1 :: x2 :: x3 :: x4 :: x5 :: x6 :: x7 :: x8 :: x9 :: x10 :: x11 :: x12 :: x13 :: x14 :: x15 :: x16 :: x17 :: x18 :: x19 :: x20 :: x21 :: x22 :: x23 :: x24 :: x25 :: x26 :: x27 :: x28 :: x29 :: x30 :: x31 :: x32 :: x33 :: x34 :: y :: env) Q) = rho (Q (x0 :: x1 :: x2 :: x3 :: x4 :: x5 :: x6 :: x7 :: x8 :: x9 :: x10 :: x11 :: x12 :: x13 :: x14 :: x15 :: x16 :: x17 :: x18 :: x19 :: x20 :: x21 :: x22 :: x23 :: x24 :: x25 :: x26 :: x27 :: x28 :: x29 :: x30 :: x31 :: x32 :: x33 :: x34 :: some d :: env)) := congrArg rho (wBd_35)
theorem wBd_36 {x0 x1 x2 x3 x4 x5 x6 x7 x8 x9 x10 x11 x12 x13 x14 x15 x16 x17 x18 x19 x20 x21 x22 x23 x24 x25 x26 x27 x28 x29 x30 x31 x32 x33 x34 x35 : Option D} {y : Option D} {Q : Env → Prop} : wBd [36] true d (x0 :: x1 :: x2 :: x3 :: x4 :: x5 :: x6 :: x7 :: x8 :: x9 :: x10 :: x11 :: x12 :: x13 :: x14 :: x15 :: x16 :: x17 :: x18 :: x19 :: x20 :: x21 :: x22 :: x23 :: x24 :: x25 :: x26 :: x27 :: x28 :: x29 :: x30 :: x31 :: x32 :: x33 :: x34 :: x35 :: y :: env) Q = Q (x0 :: x1 :: x2 :: x3 :: x4 :: x5 :: x6 :: x7 :: x8 :: x9 :: x10 :: x11 :: x12 :: x13 :: x14 :: x15 :: x16 :: x17 :: x18 :: x19 :: x20 :: x21 :: x22 :: x23 :: x24 :: x25 :: x26 :: x27 :: x28 :: x29 :: x30 :: x31 :: x32 :: x33 :: x34 :: x35 :: some d :: env) := rfl
@[simp ↓] theorem wBd_36_r {x0 x1 x2 x3 x4 x5 x6 x7 x8 x9 x10 x11 x12 x13 x14 x15 x16 x17 x18 x19 x20 x21 x22 x23 x24 x25 x26 x27 x28 x29 x30 x31 x32 x33 x34 x35 : Option D} {y : Option D} {Q : Env → Prop} : rho (wBd [36] true d (x0 :: x1 :: x2 :: x3 :: x4 :: x5 :: x6 :: x7 :: x8 :: x9 :: x10 :: x11 :: x12 :: x13 :: x14 :: x15 :: x16 :: x17 :: x18 :: x19 :: x20 :: x21 :: x22 :: x23 :: x24 :: x25 :: x26 :: x27 :: x28 :: x29 :: x30 :: x31 :: x32 :: x33 :: x34 :: x35 :: y :: env) Q) = rho (Q (x0 :: x1 :: x2 :: x3 :: x4 :: x5 :: x6 :: x7 :: x8 :: x9 :: x10 :: x11 :: x12 :: x13 :: x14 :: x15 :: x16 :: x17 :: x18 :: x19 :: x20 :: x21 :: x22 :: x23 :: x24 :: x25 :: x26 :: x27 :: x28 :: x29 :: x30 :: x31 :: x32 :: x33 :: x34 :: x35 :: some d :: env)) := congrArg rho (wBd_36)
theorem wBd_37 {x0 x1 x2 x3 x4 x5 x6 x7 x8 x9 x10 x11 x12 x13 x14 x15 x16 x17 x18 x19 x20 x21 x22 x23 x24 x25 x26 x27 x28 x29 x30 x31 x32 x33 x34 x35 x36 : Option D} {y : Option D} {Q : Env → Prop} : wBd [37] true d (x0 :: x1 :: x2 :: x3 :: x4 :: x5 :: x6 :: x7 :: x8 :: x9 :: x10 :: x11 :: x12 :: x13 :: x14 :: x15 :: x16 :: x17 :: x18 :: x19 :: x20 :: x21 :: x22 :: x23 :: x24 :: x25 :: x26 :: x27 :: x28 :: x29 :: x30 :: x31 :: x32 :: x33 :: x34 :: x35 :: x36 :: y :: env) Q = Q (x0 :: x1 :: x2 :: x3 :: x4 :: x5 :: x6 :: x7 :: x8 :: x9 :: x10 :: x11 :: x12 :: x13 :: x14 :: x15 :: x16 :: x17 :: x18 :: x19 :: x20 :: x21 :: x22 :: x23 :: x24 :: x25 :: x26 :: x27 :: x28 :: x29 :: x30 :: x31 :: x32 :: x33 :: x34 :: x35 :: x36 :: some d :: env) := rfl
@[simp ↓] theorem wBd_37_r {x0 x1 x2 x3 x4 x5 x6 x7 x8 x9 x10 x11 x12 x13 x14 x15 x16 x17 x18 x19 x20 x21 x22 x23 x24 x25 x26 x27 x28 x29 x30 x31 x32 x33 x34 x35 x36 : Option D} {y : Option D} {Q : Env → Prop} : rho (wBd [37] true d (x0 :: x1 :: x2 :: x3 :: x4 :: x5 :: x6 :: x7 :: x8 :: x9 :: x10 :: x11 :: x12 :: x13 :: x14 :: x15 :: x16 :: x17 :: x18 :: x19 :: x20 :: x21 :: x22 :: x23 :: x24 :: x25 :: x26 :: x27 :: x28 :: x29 :: x30 :: x31 :: x32 :: x33 :: x34 :: x35 :: x36 :: y :: env) Q) = rho (Q (x0 :: x1 :: x2 :: x3 :: x4 :: x5 :: x6 :: x7 :: x8 :: x9 :: x10 :: x11 :: x12 :: x13 :: x14 :: x15 :: x16 :: x17 :: x18 :: x19 :: x20 :: x21 :: x22 :: x23 :: x24 :: x25 :: x26 :: x27 :: x28 :: x29 :: x30 :: x31 :: x32 :: x33 :: x34 :: x35 :: x36 :: some d :: env)) := congrArg rho (wBd_37)
theorem wBd_38 {x0 x1 x2 x3 x4 x5 x6 x7 x8 x9 x10 x11 x12 x13 x14 x15 x16 x17 x18 x19 x20 x21 x22 x23 x24 x25 x26 x27 x28 x29 x30 x31 x32 x33 x34 x35 x36 x37 : Option D} {y : Option D} {Q : Env → Prop} : wBd [38] true d (x0 :: x1 :: x2 :: x3 :: x4 :: x5 :: x6 :: x7 :: x8 :: x9 :: x10 :: x11 :: x12 :: x13 :: x14 :: x15 :: x16 :: x17 :: x18 :: x19 :: x20 :: x21 :: x22 :: x23 :: x24 :: x25 :: x26 :: x27 :: x28 :: x29 :: x30 :: x31 :: x32 :: x33 :: x34 :: x35 :: x36 :: x37 :: y :: env) Q = Q (x0 :: x1 :: x2 :: x3 :: x4 :: x5 :: x6 :: x7 :: x8 :: x9 :: x10 :: x11 :: x12 :: x13 :: x14 :: x15 :: x16 :: x17 :: x18 :: x19 :: x20 :: x21 :: x22 :: x23 :: x24 :: x25 :: x26 :: x27 :: x28 :: x29 :: x30 :: x31 :: x32 :: x33 :: x34 :: x35 :: x36 :: x37 :: some d :: env) := rfl
@[simp ↓] theorem wBd_38_r {x0 x1 x2 x3 x4 x5 x6 x7 x8 x9 x10 x11 x12 x13 x14 x15 x16 x17 x18 x19 x20 x21 x22 x23 x24 x25 x26 x27 x28 x29 x30 x31 x32 x33 x34 x35 x36 x37 : Option D} {y : Option D} {Q : Env → Prop} : rho (wBd [38] true d (x0 :: x1 :: x2 :: x3 :: x4 :: x5 :: x6 :: x7 :: x8 :: x9 :: x10 :: x11 :: x12 :: x13 :: x14 :: x15 :: x16 :: x17 :: x18 :: x19 :: x20 :: x21 :: x22 :: x23 :: x24 :: x25 :: x26 :: x27 :: x28 :: x29 :: x30 :: x31 :: x32 :: x33 :: x34 :: x35 :: x36 :: x37 :: y :: env) Q) = rho (Q (x0 :: x1 :: x2 :: x3 :: x4 :: x5 :: x6 :: x7 :: x8 :: x9 :: x10 :: x11 :: x12 :: x13 :: x14 :: x15 :: x16 :: x17 :: x18 :: x19 :: x20 :: x21 :: x22 :: x23 :: x24 :: x25 :: x26 :: x27 :: x28 :: x29 :: x30 :: x31 :: x32 :: x33 :: x34 :: x35 :: x36 :: x37 :: some d :: env)) := congrArg rho (wBd_38)
theorem wBd_39 {x0 x1 x2 x3 x4 x5 x6 x7 x8 x9 x10 x11 x12 x13 x14 x15 x16 x17 x18 x19 x20 x21 x22 x23 x24 x25 x26 x27 x28 x29 x30 x31 x32 x33 x34 x35 x36 x37 x38 : Option D} {y : Option D} {Q : Env → Prop} : wBd [39] true d (x0 :: x1 :: x2 :: x3 :: x4 :: x5 :: x6 :: x7 :: x8 :: x9 :: x10 :: x11 :: x12 :: x13 :: x14 :: x15 :: x16 :: x17 :: x18 :: x19 :: x20 :: x21 :: x22 :: x23 :: x24 :: x25 :: x26 :: x27 :: x28 :: x29 :: x30 :: x31 :: x32 :: x33 :: x34 :: x35 :: x36 :: x37 :: x38 :: y :: env) Q = Q (x0 :: x1 :: x2 :: x3 :: x4 :: x5 :: x6 :: x7 :: x8 :: x9 :: x10 :: x11 :: x12 :: x13 :: x14 :: x15 :: x16 :: x17 :: x18 :: x19 :: x20 :: x21 :: x22 :: x23 :: x24 :: x25 :: x26 :: x27 :: x28 :: x29 :: x30 :: x31 :: x32 :: x33 :: x34 :: x35 :: x36 :: x37 :: x38 :: some d :: env) := rfl
@[simp ↓] theorem wBd_39_r {x0 x1 x2 x3 x4 x5 x6 x7 x8 x9 x10 x11 x12 x13 x14 x15 x16 x17 x18 x19 x20 x21 x22 x23 x24 x25 x26 x27 x28 x29 x30 x31 x32 x33 x34 x35 x36 x37 x38 : Option D} {y : Option D} {Q : Env → Prop} : rho (wBd [39] true d (x0 :: x1 :: x2 :: x3 :: x4 :: x5 :: x6 :: x7 :: x8 :: x9 :: x10 :: x11 :: x12 :: x13 :: x14 :: x15 :: x16 :: x17 :: x18 :: x19 :: x20 :: x21 :: x22 :: x23 :: x24 :: x25 :: x26 :: x27 :: x28 :: x29 :: x30 :: x31 :: x32 :: x33 :: x34 :: x35 :: x36 :: x37 :: x38 :: y :: env) Q) = rho (Q (x0 :: x1 :: x2 :: x3 :: x4 :: x5 :: x6 :: x7 :: x8 :: x9 :: x10 :: x11 :: x12 :: x13 :: x14 :: x15 :: x16 :: x17 :: x18 :: x19 :: x20 :: x21 :: x22 :: x23 :: x24 :: x25 :: x26 :: x27 :: x28 :: x29 :: x30 :: x31 :: x32 :: x33 :: x34 :: x35 :: x36 :: x37 :: x38 :: some d :: env)) := congrArg rho (wBd_39)
@[simp] theorem fl_Pattern_week : flds.contains (("Pattern" : Str), ("week" : Str)) = true := by decide +kernel
@[simp] theorem fl_Pattern_yearly : flds.contains (("Pattern" : Str), ("yearly" : Str)) = true := by decide +kernel
@[simp] theorem fl_Pattern_short : flds.contains (("Pattern" : Str), ("short" : Str)) = true := by decide +kernel
@[simp] theorem fl_Pattern_extra : flds.contains (("Pattern" : Str), ("extra" : Str)) = true := by decide +kernel
@[simp] theorem fl_Pattern_round : flds.contains (("Pattern" : Str), ("round" : Str)) = true := by decide +kernel
@[simp] theorem fl_Table_pattern : flds.contains (("Table" : Str), ("pattern" : Str)) = true := by decide +kernel
@[simp] theorem fl_Table_rows : flds.contains (("Table" : Str), ("rows" : Str)) = true := by decide +kernel
@[simp] theorem fl_Rule_name : flds.contains (("Rule" : Str), ("name" : Str)) = true := by decide +kernel
@[simp] theorem fl_Rule_who : flds.contains (("Rule" : Str), ("who" : Str)) = true := by decide +kernel
@[simp] theorem fl_Rule_owes : flds.contains (("Rule" : Str), ("owes" : Str)) = true := by decide +kernel
@[simp] theorem fl_Rule_opens : flds.contains (("Rule" : Str), ("opens" : Str)) = true := by decide +kernel
@[simp] theorem fl_Rule_base : flds.contains (("Rule" : Str), ("base" : Str)) = true := by decide +kernel
@[simp] theorem fl_Rule_many : flds.contains (("Rule" : Str), ("many" : Str)) = true := by decide +kernel
@[simp] theorem fl_Rule_unit : flds.contains (("Rule" : Str), ("unit" : Str)) = true := by decide +kernel
@[simp] theorem fl_Rule_ends : flds.contains (("Rule" : Str), ("ends" : Str)) = true := by decide +kernel
@[simp] theorem fl_Rule_anew : flds.contains (("Rule" : Str), ("anew" : Str)) = true := by decide +kernel
@[simp] theorem fl_Rule_longer : flds.contains (("Rule" : Str), ("longer" : Str)) = true := by decide +kernel
@[simp] theorem fl_Rule_still : flds.contains (("Rule" : Str), ("still" : Str)) = true := by decide +kernel
@[simp] theorem fl_Rule_yields : flds.contains (("Rule" : Str), ("yields" : Str)) = true := by decide +kernel
@[simp] theorem fl_Book_in_turn : flds.contains (("Book" : Str), ("in_turn" : Str)) = true := by decide +kernel
@[simp] theorem fl_Book_told : flds.contains (("Book" : Str), ("told" : Str)) = true := by decide +kernel
@[simp] theorem fl_Counting_table : flds.contains (("Counting" : Str), ("table" : Str)) = true := by decide +kernel
@[simp] theorem fl_Weeks_table : flds.contains (("Weeks" : Str), ("table" : Str)) = true := by decide +kernel
@[simp] theorem fl_CourtDays_table : flds.contains (("CourtDays" : Str), ("table" : Str)) = true := by decide +kernel
@[simp] theorem fl_Run_rule : flds.contains (("Run" : Str), ("rule" : Str)) = true := by decide +kernel
@[simp] theorem fl_Run_counting : flds.contains (("Run" : Str), ("counting" : Str)) = true := by decide +kernel
@[simp] theorem fl_Run_act : flds.contains (("Run" : Str), ("act" : Str)) = true := by decide +kernel
@[simp] theorem fl_Run_begin : flds.contains (("Run" : Str), ("begin" : Str)) = true := by decide +kernel
@[simp] theorem fl_Run_base : flds.contains (("Run" : Str), ("base" : Str)) = true := by decide +kernel
@[simp] theorem fl_Run_units : flds.contains (("Run" : Str), ("units" : Str)) = true := by decide +kernel
@[simp] theorem fl_Run_pauses : flds.contains (("Run" : Str), ("pauses" : Str)) = true := by decide +kernel
@[simp] theorem fl_Run_used : flds.contains (("Run" : Str), ("used" : Str)) = true := by decide +kernel
@[simp] theorem fl_Run_over : flds.contains (("Run" : Str), ("over" : Str)) = true := by decide +kernel
@[simp] theorem fl_Run_rows : flds.contains (("Run" : Str), ("rows" : Str)) = true := by decide +kernel
@[simp] theorem fl_Run_known : flds.contains (("Run" : Str), ("known" : Str)) = true := by decide +kernel
@[simp] theorem fl_Docket_book : flds.contains (("Docket" : Str), ("book" : Str)) = true := by decide +kernel
@[simp] theorem fl_Docket_table : flds.contains (("Docket" : Str), ("table" : Str)) = true := by decide +kernel
@[simp] theorem fl_Docket_first : flds.contains (("Docket" : Str), ("first" : Str)) = true := by decide +kernel
@[simp] theorem fl_Docket_held : flds.contains (("Docket" : Str), ("held" : Str)) = true := by decide +kernel
@[simp] theorem fl_Docket_now : flds.contains (("Docket" : Str), ("now" : Str)) = true := by decide +kernel
@[simp] theorem fl_Desk_book : flds.contains (("Desk" : Str), ("book" : Str)) = true := by decide +kernel
@[simp] theorem fl_Desk_days : flds.contains (("Desk" : Str), ("days" : Str)) = true := by decide +kernel
@[simp] theorem fl_Desk_docket : flds.contains (("Desk" : Str), ("docket" : Str)) = true := by decide +kernel
@[simp] theorem fl_DayWalk_rule : flds.contains (("DayWalk" : Str), ("rule" : Str)) = true := by decide +kernel
@[simp] theorem fl_DayWalk_table : flds.contains (("DayWalk" : Str), ("table" : Str)) = true := by decide +kernel
@[simp] theorem fl_DayWalk_start : flds.contains (("DayWalk" : Str), ("start" : Str)) = true := by decide +kernel
@[simp] theorem fl_DayWalk_units : flds.contains (("DayWalk" : Str), ("units" : Str)) = true := by decide +kernel
@[simp] theorem fl_DayWalk_pauses : flds.contains (("DayWalk" : Str), ("pauses" : Str)) = true := by decide +kernel
@[simp] theorem fl_DayWalk_used : flds.contains (("DayWalk" : Str), ("used" : Str)) = true := by decide +kernel
@[simp] theorem fl_DayWalk_met : flds.contains (("DayWalk" : Str), ("met" : Str)) = true := by decide +kernel
@[simp] theorem fl_DayWalk_last : flds.contains (("DayWalk" : Str), ("last" : Str)) = true := by decide +kernel
@[simp] theorem fl_DayWalk_rows : flds.contains (("DayWalk" : Str), ("rows" : Str)) = true := by decide +kernel
end
end SI

/-! SI 24: texts: signs, written numbers, split by a sign -/
namespace SI
open PySem
theorem lt_lim1 : 1000 < lim := by unfold lim; omega
@[simp] theorem eqB_int {n : Nat} {s : Store} {i j : Int} : eqB n s (.int i) (.int j) = decide (i = j) := by cases n <;> rfl
@[simp] theorem eqB_str {n : Nat} {s : Store} {i j : Str} : eqB n s (.str i) (.str j) = decide (i = j) := by cases n <;> rfl
@[simp] theorem eqB_bl {n : Nat} {s : Store} {i j : Bool} : eqB n s (.bl i) (.bl j) = decide (i = j) := by cases n <;> cases i <;> cases j <;> rfl
@[simp] theorem eqB_non {n : Nat} {s : Store} : eqB n s .non .non = true := by cases n <;> rfl
@[simp] theorem flatD_int {i : Int} : flatD (.int i) = true := rfl
@[simp] theorem flatD_str {i : Str} : flatD (.str i) = true := rfl
@[simp] theorem flatD_bl {i : Bool} : flatD (.bl i) = true := rfl
@[simp] theorem flatD_non : flatD .non = true := rfl
/-- a sign of a text -/
def chr (x : Str) (i : Int) : Str := ⟨#[x.cps.toList.getD i.toNat 0]⟩
theorem wIx_chr {x : Str} {i : Int} {s : Store} {Q : D → Prop} (h : (0 ≤ i ∧ i < x.length) ∧ x.length < lim) : rho (wIx (.v (.str x)) (.v (.int i)) s Q) = rho (Q (.str (chr x i))) := by
  obtain ⟨⟨h1, h2⟩, h3⟩ := h
  obtain ⟨j, rfl⟩ : ∃ j : Nat, i = (j : Int) := ⟨i.toNat, by omega⟩
  have hj : j < x.cps.toList.length := by
    have : (x.length : Int) = x.cps.toList.length := by simp [Str.length]
    omega
  refine congrArg rho (wIx_str h3 (L2.atI_nat (j := j) ?_))
  rw [Int.toNat_natCast, List.getD_eq_getElem?_getD, List.getElem?_eq_getElem hj]
  rfl
theorem sign_at {x : Str} {i : Nat} {d : D} (h : (signs x)[i]? = some d) : ∃ c, d = .str ⟨#[c]⟩ ∧ x.cps.toList[i]? = some c := by
  unfold signs at h
  rw [List.getElem?_map] at h
  cases q : x.cps.toList[i]? with
  | none => rw [q] at h; cases h
  | some c => rw [q] at h; cases h; exact ⟨c, rfl, rfl⟩
theorem len_add (x y : Str) : (x ++ y).length = x.length + y.length := by
  show (x.cps ++ y.cps).size = _
  rw [Array.size_append]; rfl
theorem len_chr (x : Str) (i : Int) : (chr x i).length = 1 := rfl
/-- a whole number as a text -/
def nT (y : Int) : Str := Str.ofString (toString y)
theorem nT_tl (n : Nat) : (nT n).cps.toList = TL.numL n := TL.tl_num n
theorem nT_len {y : Int} {k : Nat} (hk : 0 < k) (h0 : 0 ≤ y) (h : y < 10 ^ k) : (nT y).length ≤ k := by
  obtain ⟨n, rfl⟩ : ∃ n : Nat, y = n := ⟨y.toNat, by omega⟩
  have e : (nT n).length = (TL.numL n).length := by rw [← nT_tl]; simp [Str.length]
  rw [e]
  exact TL.numL_len hk (by exact_mod_cast h)
theorem nT_pos {y : Int} (h0 : 0 ≤ y) : 0 < (nT y).length := by
  obtain ⟨n, rfl⟩ : ∃ n : Nat, y = n := ⟨y.toNat, by omega⟩
  have e : (nT n).length = (TL.numL n).length := by rw [← nT_tl]; simp [Str.length]
  rw [e]
  exact List.length_pos_iff.mpr (TL.numL_ne n)
theorem nT_sign {y : Int} {c : Nat} (h0 : 0 ≤ y) (h : c ∈ (nT y).cps.toList) : 48 ≤ c ∧ c ≤ 57 := by
  obtain ⟨n, rfl⟩ : ∃ n : Nat, y = n := ⟨y.toNat, by omega⟩
  rw [nT_tl] at h
  exact TL.numL_digits n c h
theorem head_num (n : Nat) (h : 0 < n) : (TL.numL n).head? ≠ some 48 := by
  induction n using Nat.strongRecOn with
  | _ n ih =>
    by_cases q : n < 10
    · rw [TL.numL_lt q]
      simp; omega
    · have z := ih (n / 10) (by omega) (by omega)
      rw [TL.numL_step (by omega)]
      have hn := TL.numL_ne (n / 10)
      cases e : TL.numL (n / 10) with
      | nil => exact absurd e hn
      | cons a l => rw [e] at z; exact z
theorem nT_head {y : Int} (h0 : 0 < y) : (nT y).cps.toList.getD 0 0 ≠ 48 := by
  obtain ⟨n, rfl⟩ : ∃ n : Nat, y = n := ⟨y.toNat, by omega⟩
  rw [nT_tl]
  have h := head_num n (by omega)
  have hn := TL.numL_ne n
  cases e : TL.numL n with
  | nil => exact absurd e hn
  | cons a l => rw [e] at h; intro q; exact h (by simpa using q)
theorem nT_int {y : Int} (h0 : 0 ≤ y) (h : y < 10 ^ 250) : intText? (nT y) = some y := by
  obtain ⟨n, rfl⟩ : ∃ n : Nat, y = n := ⟨y.toNat, by omega⟩
  exact TL.int_num (Nat.le_trans (TL.numL_len (k := 250) (by decide) (by exact_mod_cast h)) (by decide))
theorem wBi_int_nT {y : Int} {s : Store} {Q : Ev → Prop} (h : 0 ≤ y ∧ y < 10 ^ 250) : rho (wBi .int [.v (.str (nT y))] s Q) = rho (Q (.v (.int y))) :=
  congrArg rho (wBi_int_str (Nat.le_trans (nT_len (by decide) h.1 h.2) (by decide)) (nT_int h.1 h.2))
@[simp ↓ high] theorem wBi_str_nT {i : Int} {s : Store} {Q : Ev → Prop} (h : -10 ^ 250 < i ∧ i < 10 ^ 250) : rho (wBi .str [.v (.int i)] s Q) = rho (Q (.v (.str (nT i)))) := congrArg rho (wBi_str_int h)
theorem nT_free {y : Int} (h0 : 0 ≤ y) {s : Nat} (h : s < 48 ∨ 57 < s) : s ∉ TL.tl (nT y) := fun z => by
  have := nT_sign h0 z
  omega
theorem chr0_ne {y : Int} (h0 : 0 < y) : ¬ chr (nT y) 0 = "0" := fun h => nT_head h0 (by
  have := congrArg (fun z : Str => z.cps.toList.getD 0 0) h
  exact this)
theorem join3 (y a b c : Str) : Txt.join y [a, b, c] = a ++ y ++ b ++ y ++ c := by
  rw [TL.join_eq]
  show a ++ y ++ (b ++ y ++ c) = _
  apply congrArg Str.mk
  show a.cps ++ y.cps ++ (b.cps ++ y.cps ++ c.cps) = a.cps ++ y.cps ++ b.cps ++ y.cps ++ c.cps
  simp only [Array.append_assoc]
theorem split3 {a b c : Int} (ha : 0 ≤ a) (hb : 0 ≤ b) (hc : 0 ≤ c) : Txt.split (nT a ++ "-" ++ nT b ++ "-" ++ nT c) "-" = [nT a, nT b, nT c] := by
  rw [← join3]
  refine TL.split_join (y := "-") (s := 45) (S := []) (by kernel_rfl) (by kernel_rfl) (by simp) fun p hp => ?_
  simp only [List.mem_cons, List.not_mem_nil, or_false] at hp
  rcases hp with rfl | rfl | rfl
  · exact nT_free ha (.inl (by decide))
  · exact nT_free hb (.inl (by decide))
  · exact nT_free hc (.inl (by decide))
end SI

/-! SI 25: pairs of whole numbers: sorted, merged, found by halving -/
namespace SI
open PySem
abbrev P2 := Int × Int
def pD (l : List P2) : List D := l.map fun p => .tup [.int p.1, .int p.2]
def ltP (x y : P2) : Bool := decide (x.1 < y.1) || (decide (x.1 = y.1) && decide (x.2 < y.2))
@[simp] theorem pD_nil : pD [] = [] := rfl
@[simp] theorem pD_len {l : List P2} : (pD l).length = l.length := List.length_map _
@[simp] theorem pD_app {l m : List P2} : pD l ++ pD m = pD (l ++ m) := List.map_append.symm
@[simp] theorem pD_one {l : List P2} {a b : Int} : pD l ++ [.tup [.int a, .int b]] = pD (l ++ [(a, b)]) := by simp [pD]
theorem pD_get {l : List P2} {i : Nat} {d : D} (h : (pD l)[i]? = some d) : ∃ p, d = .tup [.int p.1, .int p.2] ∧ l[i]? = some p := by
  unfold pD at h
  rw [List.getElem?_map] at h
  cases q : l[i]? with
  | none => rw [q] at h; cases h
  | some y => rw [q] at h; cases h; exact ⟨y, rfl, rfl⟩
theorem wAt_pD {l : List P2} {k : Nat} {p : P2} {Q : D → Prop} (h : l[k]? = some p) : rho (wAt (pD l) (k : Int) Q) = rho (Q (.tup [.int p.1, .int p.2])) := congrArg rho (wAt_of (L2.atI_nat (by simp [pD, h])))
theorem srtOk_pD (l : List P2) : srtOk (pD l) = true := by
  unfold srtOk
  rw [Bool.or_eq_true, Bool.or_eq_true]; right; right
  cases l with
  | nil => rfl
  | cons a r =>
    show (match some [false, false] with
      | some (false :: bs) => (pD r).all fun e => decide (tupSh e = some (false :: bs))
      | _ => false) = true
    show ((pD r).all fun e => decide (tupSh e = some [false, false])) = true
    rw [List.all_eq_true]
    intro d hd
    obtain ⟨p, _, rfl⟩ := List.mem_map.1 hd
    rfl
theorem ltSrt_pair (x y : P2) : ltSrt (.tup [.int x.1, .int x.2]) (.tup [.int y.1, .int y.2]) = ltP x y := by
  show ltPs [.inl x.1, .inl x.2] [.inl y.1, .inl y.2] = _
  unfold ltP
  simp only [ltPs, ltPc]
  by_cases h1 : x.1 = y.1
  · by_cases h2 : x.2 = y.2
    · simp [h1, h2]
    · simp [h1, h2]
  · simp [h1]
theorem sort_pD (l : List P2) : sortBy ltSrt (pD l) = pD (sortBy ltP l) := (sort_map fun x _ y _ => (ltSrt_pair y x).symm).symm
@[simp ↓] theorem wSrt_pD {l : List P2} {Q : List D → Prop} : rho (wSrt (pD l) Q) = rho (Q (pD (sortBy ltP l))) := by
  unfold wSrt
  rw [sort_pD]
  simp [srtOk_pD, rho]
theorem swo_ltP : SrtO.Swo ltP where
  asym := fun x y h => by
    unfold ltP at *
    simp only [Bool.or_eq_true, Bool.and_eq_true, decide_eq_true_eq] at h
    rw [Bool.eq_false_iff]
    simp only [ne_eq, Bool.or_eq_true, Bool.and_eq_true, decide_eq_true_eq]
    omega
  tr := fun x y z h1 h2 => by
    unfold ltP at *
    rw [Bool.eq_false_iff] at *
    simp only [ne_eq, Bool.or_eq_true, Bool.and_eq_true, decide_eq_true_eq] at *
    omega
theorem ltP_false {x y : P2} (h : ltP y x = false) : x.1 ≤ y.1 := by
  unfold ltP at h
  rw [Bool.eq_false_iff] at h
  simp only [ne_eq, Bool.or_eq_true, Bool.and_eq_true, decide_eq_true_eq] at h
  omega
theorem sort_firsts (l : List P2) : (sortBy ltP l).Pairwise fun x y => x.1 ≤ y.1 := (sort_sorted swo_ltP l).imp fun h => ltP_false h
theorem ins_len {α : Type} {lt : α → α → Bool} {x : α} : ∀ l : List α, (insBy lt x l).length = l.length + 1
  | [] => rfl
  | y :: ys => by
    unfold insBy
    split
    · rw [List.length_cons, ins_len ys]; rfl
    · rfl
theorem sort_len {α : Type} {lt : α → α → Bool} : ∀ l : List α, (sortBy lt l).length = l.length
  | [] => rfl
  | x :: xs => by
    show (insBy lt x (sortBy lt xs)).length = _
    rw [ins_len, sort_len xs]; rfl
/-! ### == of lists -/
theorem eqS_l (x y : Ev) (s : Store) : (match x, y with | .v a, .v b => eqS a b | _, _ => none) = none ∨ lstE s x = none ∨ lstE s y = none := by
  cases x with
  | t xs => exact .inl rfl
  | v a => cases y with
    | t ys => exact .inl rfl
    | v b => cases a <;> first | exact .inr (.inl rfl) | (cases b <;> first | exact .inr (.inr rfl) | exact .inl rfl)
theorem eqE_l {x y : Ev} {xs ys : List D} {s : Store} (hx : lstE s x = some xs) (hy : lstE s y = some ys) (px : isPE s x = true) (py : isPE s y = true) : eqE x y s = some (eqs (eqB 49 s) xs ys) := by
  have e := (eqS_l x y s).resolve_right (by rw [hx, hy]; simp)
  unfold eqE
  split
  · rename_i h
    exact absurd (e.symm.trans h) (by simp)
  · simp only [px, py, Bool.and_self, if_true, hx, hy]
theorem isPE_ref {s : Store} {n : Nat} {ds : List D} (h : s[n]? = some (.lst ds)) (hp : ds.all (isP 49 s) = true) : isPE s (.v (.ref n)) = true := by
  show (match s[n]? with | some (.lst ds) => ds.all (isP 49 s) | _ => false) = true
  rw [h]; exact hp
theorem pD_isP {l : List P2} {s : Store} {k : Nat} : (pD l).all (isP (k + 1) s) = true := by
  unfold pD
  rw [List.all_map, List.all_eq_true]
  intro p _
  show ([D.int p.1, D.int p.2].all (isP k s)) = true
  cases k <;> rfl
theorem pD_eqs {s : Store} {k : Nat} : ∀ {l m : List P2}, eqs (eqB (k + 1) s) (pD l) (pD m) = decide (l = m)
  | [], [] => rfl
  | [], _ :: _ => by simp [pD, eqs]
  | _ :: _, [] => by simp [pD, eqs]
  | (a, b) :: l, (c, d) :: m => by
    have ih := pD_eqs (s := s) (k := k) (l := l) (m := m)
    show (eqs (eqB k s) [.int a, .int b] [.int c, .int d] && eqs (eqB (k + 1) s) (pD l) (pD m)) = _
    rw [ih]
    simp only [eqs, eqB_int, Bool.and_true]
    rw [Bool.eq_iff_iff]
    simp [and_assoc]
theorem pD_ref {s : Store} {n : Nat} {l : List P2} (h : s[n]? = some (.lst (pD l))) : lstE s (.v (.ref n)) = some (pD l) ∧ isPE s (.v (.ref n)) = true := ⟨itRef h, isPE_ref h pD_isP⟩
theorem wC_pDne {s : Store} {a b : Nat} {l m : List P2} {Q : Bool → Prop} (h1 : s[a]? = some (.lst (pD l))) (h2 : s[b]? = some (.lst (pD m))) : rho (wC .ne (.v (.ref a)) (.v (.ref b)) s Q) = rho (Q (!decide (l = m))) := by
  obtain ⟨e1, p1⟩ := pD_ref h1
  obtain ⟨e2, p2⟩ := pD_ref h2
  show rho (wOf ((eqE _ _ s).map not) Q) = _
  rw [eqE_l e1 e2 p1 p2, pD_eqs]; rfl
theorem wC_pDeq {s : Store} {a b : Nat} {l m : List P2} {Q : Bool → Prop} (h1 : s[a]? = some (.lst (pD l))) (h2 : s[b]? = some (.lst (pD m))) : rho (wC .eq (.v (.ref a)) (.v (.ref b)) s Q) = rho (Q (decide (l = m))) := by
  obtain ⟨e1, p1⟩ := pD_ref h1
  obtain ⟨e2, p2⟩ := pD_ref h2
  show rho (wOf (eqE (.v (.ref a)) (.v (.ref b)) s) Q) = _
  rw [eqE_l e1 e2 p1 p2, pD_eqs]; rfl
theorem wC_pDe {s : Store} {a : Nat} {l : List P2} {Q : Bool → Prop} (h1 : s[a]? = some (.lst (pD l))) : rho (wC .ne (.v (.ref a)) (.t []) s Q) = rho (Q (!l.isEmpty)) := by
  obtain ⟨e1, p1⟩ := pD_ref h1
  show rho (wOf ((eqE _ _ s).map not) Q) = _
  rw [eqE_l (ys := []) e1 rfl p1 rfl]
  cases l <;> rfl
theorem wAt_last {ds : List D} {d : D} {Q : D → Prop} : rho (wAt (ds ++ [d]) (-1) Q) = rho (Q d) := congrArg rho (wAt_of (L2.atI_last _ _))
theorem wAt_lastP {l : List P2} {p : P2} {Q : D → Prop} : rho (wAt (pD (l ++ [p])) (-1) Q) = rho (Q (.tup [.int p.1, .int p.2])) := by
  rw [← pD_app]; exact wAt_last
theorem ixN_last {n : Nat} (h : 0 < n) : L2.ixN n (-1) = some (n - 1) := by
  unfold L2.ixN
  rw [if_neg (by omega), if_pos (by omega)]
  congr 1; omega
@[simp ↓ high] theorem wSt_lastP {l : List P2} {p : P2} {a b : Int} {Q : Cell → Prop} : rho (wSt (.lst (pD (l ++ [p]))) (.int (-1)) (.tup [.int a, .int b]) Q) = rho (Q (.lst (pD (l ++ [(a, b)])))) := by
  rw [wSt_lst, ixN_last (by simp)]
  show rho (Q (.lst ((pD (l ++ [p])).set ((pD (l ++ [p])).length - 1) _))) = _
  have : (pD (l ++ [p])).set ((pD (l ++ [p])).length - 1) (.tup [.int a, .int b]) = pD (l ++ [(a, b)]) := by
    rw [← pD_app, ← pD_app, List.set_append_right _ _ (by simp)]
    simp [pD]
  rw [this]
theorem st_last {s : Store} {c : Cell} : (s ++ [c])[s.length]? = some c := by simp
/-! ### merged -/
/-- one more; what is told stands the last first -/
def mR : List P2 → P2 → List P2
  | [], p => [p]
  | q :: r, p => if p.1 ≤ q.2 + 1 then (if q.2 < p.2 then (q.1, p.2) :: r else q :: r) else p :: q :: r
theorem mR_cons {q p : P2} {r : List P2} : mR (q :: r) p = if p.1 ≤ q.2 + 1 then (if q.2 < p.2 then (q.1, p.2) :: r else q :: r) else p :: q :: r := rfl
def mrg (l : List P2) : List P2 := ((sortBy ltP l).foldl mR []).reverse
def cov (l : List P2) (d : Int) : Bool := l.any fun p => decide (p.1 ≤ d) && decide (d ≤ p.2)
theorem cov_iff {l : List P2} {d : Int} : cov l d = true ↔ ∃ p ∈ l, p.1 ≤ d ∧ d ≤ p.2 := by
  unfold cov
  simp only [List.any_eq_true, Bool.and_eq_true, decide_eq_true_eq]
/-- apart, the last first -/
def ApR (l : List P2) : Prop := (l.Pairwise fun y x => x.2 + 1 < y.1) ∧ ∀ p ∈ l, p.1 ≤ p.2
def Ap (l : List P2) : Prop := (l.Pairwise fun x y => x.2 + 1 < y.1) ∧ ∀ p ∈ l, p.1 ≤ p.2
theorem mR_len (l : List P2) (p : P2) : (mR l p).length ≤ l.length + 1 := by
  cases l with
  | nil => exact Nat.le_refl _
  | cons q r =>
    rw [mR_cons]
    split
    · split <;> simp
    · simp
theorem mR_ok {l : List P2} {p : P2} (h : ApR l) (hp : p.1 ≤ p.2) (hq : ∀ q ∈ l.head?, q.1 ≤ p.1) : ApR (mR l p) ∧ (∀ d, cov (mR l p) d = (cov l d || (decide (p.1 ≤ d) && decide (d ≤ p.2)))) ∧ (∀ q ∈ (mR l p).head?, q.1 ≤ p.1) := by
  cases l with
  | nil =>
    refine ⟨⟨List.pairwise_singleton _ _, ?_⟩, fun d => ?_, ?_⟩
    · intro q hq; rw [List.mem_singleton.1 hq]; exact hp
    · show ((_ && _) || false) = (false || _)
      rw [Bool.or_false, Bool.false_or]
    · intro q hq; cases hq; omega
  | cons q r =>
    obtain ⟨h1, h2⟩ := h
    have h1' := List.pairwise_cons.1 h1
    have hq0 : q.1 ≤ p.1 := hq q rfl
    have hqq := h2 q (List.mem_cons_self ..)
    rw [mR_cons]
    split
    · split
      · refine ⟨⟨List.pairwise_cons.2 ⟨h1'.1, h1'.2⟩, ?_⟩, fun d => ?_, ?_⟩
        · intro x hx
          rcases List.mem_cons.1 hx with rfl | hx
          · show q.1 ≤ p.2; omega
          · exact h2 x (List.mem_cons_of_mem _ hx)
        · show ((decide (q.1 ≤ d) && decide (d ≤ p.2)) || cov r d) = (((decide (q.1 ≤ d) && decide (d ≤ q.2)) || cov r d) || (decide (p.1 ≤ d) && decide (d ≤ p.2)))
          rw [Bool.eq_iff_iff]
          simp only [Bool.or_eq_true, Bool.and_eq_true, decide_eq_true_eq]
          constructor
          · rintro (⟨a, b⟩ | a)
            · by_cases z : d ≤ q.2
              · exact .inl (.inl ⟨a, z⟩)
              · exact .inr ⟨by omega, b⟩
            · exact .inl (.inr a)
          · rintro ((⟨a, b⟩ | a) | ⟨a, b⟩)
            · exact .inl ⟨a, by omega⟩
            · exact .inr a
            · exact .inl ⟨by omega, b⟩
        · intro x hx; cases hx; exact hq0
      · refine ⟨⟨h1, h2⟩, fun d => ?_, ?_⟩
        · show ((decide (q.1 ≤ d) && decide (d ≤ q.2)) || cov r d) = (((decide (q.1 ≤ d) && decide (d ≤ q.2)) || cov r d) || (decide (p.1 ≤ d) && decide (d ≤ p.2)))
          rw [Bool.eq_iff_iff]
          simp only [Bool.or_eq_true, Bool.and_eq_true, decide_eq_true_eq]
          constructor
          · exact fun a => .inl a
          · rintro (a | ⟨a, b⟩)
            · exact a
            · exact .inl ⟨by omega, by omega⟩
        · intro x hx; cases hx; exact hq0
    · refine ⟨⟨List.pairwise_cons.2 ⟨fun x hx => ?_, h1⟩, ?_⟩, fun d => ?_, ?_⟩
      · rcases List.mem_cons.1 hx with rfl | hx
        · omega
        · have := h1'.1 x hx; omega
      · intro x hx
        rcases List.mem_cons.1 hx with rfl | hx
        · exact hp
        · exact h2 x hx
      · show ((decide (p.1 ≤ d) && decide (d ≤ p.2)) || cov (q :: r) d) = (cov (q :: r) d || (decide (p.1 ≤ d) && decide (d ≤ p.2)))
        rw [Bool.or_comm]
      · intro x hx; cases hx; omega
theorem mR_fold : ∀ {l : List P2} {a : List P2}, (l.Pairwise fun x y => x.1 ≤ y.1) → (∀ p ∈ l, p.1 ≤ p.2) → ApR a → (∀ q ∈ a.head?, ∀ p ∈ l, q.1 ≤ p.1) → ApR (l.foldl mR a) ∧ ∀ d, cov (l.foldl mR a) d = (cov a d || cov l d)
  | [], a, _, _, h, _ => ⟨h, fun d => by show _ = (_ || false); rw [Bool.or_false]; rfl⟩
  | p :: l, a, hs, hp, h, hq => by
    have hs' := List.pairwise_cons.1 hs
    obtain ⟨k1, k2, k3⟩ := mR_ok h (hp p (List.mem_cons_self ..)) fun q hh => hq q hh p (List.mem_cons_self ..)
    obtain ⟨m1, m2⟩ := mR_fold hs'.2 (fun x hx => hp x (List.mem_cons_of_mem _ hx)) k1 fun q hh x hx => Int.le_trans (k3 q hh) (hs'.1 x hx)
    refine ⟨m1, fun d => ?_⟩
    show cov (l.foldl mR (mR a p)) d = _
    rw [m2, k2, Bool.or_assoc]; rfl
theorem cov_mem {l m : List P2} (h : ∀ p, p ∈ l ↔ p ∈ m) (d : Int) : cov l d = cov m d := by
  rw [Bool.eq_iff_iff, cov_iff, cov_iff]
  constructor
  · rintro ⟨p, a, b⟩; exact ⟨p, (h p).1 a, b⟩
  · rintro ⟨p, a, b⟩; exact ⟨p, (h p).2 a, b⟩
theorem mrg_ok {l : List P2} (hl : ∀ p ∈ l, p.1 ≤ p.2) : Ap (mrg l) ∧ ∀ d, cov (mrg l) d = cov l d := by
  obtain ⟨⟨k1, k2⟩, k3⟩ := mR_fold (sort_firsts l) (a := []) (fun p hp => hl p (sort_mem.1 hp)) ⟨List.Pairwise.nil, fun p hp => by cases hp⟩ fun q hq => by cases hq
  refine ⟨⟨?_, fun p hp => k2 p (List.mem_reverse.1 hp)⟩, fun d => ?_⟩
  · unfold mrg; rw [List.pairwise_reverse]; exact k1
  · unfold mrg
    rw [cov_mem (fun p => List.mem_reverse) d, k3]
    show (false || _) = _
    rw [Bool.false_or]
    exact cov_mem (fun p => sort_mem) d
theorem fold_len : ∀ (l a : List P2), (l.foldl mR a).length ≤ l.length + a.length
  | [], a => by simp
  | p :: l, a => by
    have h1 := fold_len l (mR a p)
    have h2 := mR_len a p
    show (l.foldl mR (mR a p)).length ≤ l.length + 1 + a.length
    omega
theorem mrg_len (l : List P2) : (mrg l).length ≤ l.length := by
  have := fold_len (sortBy ltP l) []
  rw [sort_len] at this
  unfold mrg
  rw [List.length_reverse]
  simpa using this
/-! ### halving -/
theorem ap_get {l : List P2} (h : Ap l) {i j : Nat} {p q : P2} (hi : l[i]? = some p) (hj : l[j]? = some q) (hij : i < j) : p.2 + 1 < q.1 := by
  obtain ⟨a, rfl⟩ := List.getElem?_eq_some_iff.1 hi
  obtain ⟨b, rfl⟩ := List.getElem?_eq_some_iff.1 hj
  exact List.pairwise_iff_getElem.1 h.1 i j a b hij
theorem ap_one {l : List P2} (h : Ap l) {i : Nat} {p : P2} (hi : l[i]? = some p) : p.1 ≤ p.2 := h.2 p (List.mem_of_getElem? hi)
def plc (l : List P2) (d : Int) : Nat := (l.filter fun p => decide (p.2 < d)).length
theorem plc_le (l : List P2) (d : Int) : plc l d ≤ l.length := List.length_filter_le _ _
theorem plc_of : ∀ {l : List P2} {d : Int} {k : Nat}, k ≤ l.length → (∀ i p, i < k → l[i]? = some p → p.2 < d) → (∀ i p, k ≤ i → l[i]? = some p → ¬ p.2 < d) → plc l d = k
  | [], d, k, hk, _, _ => by
    have : k = 0 := by simpa using hk
    subst this; rfl
  | a :: l, d, 0, _, _, h2 => by
    unfold plc
    rw [List.filter_eq_nil_iff.2]
    · rfl
    intro p hp
    obtain ⟨i, hi⟩ := List.getElem?_of_mem hp
    simpa using h2 i p (Nat.zero_le _) hi
  | a :: l, d, k + 1, hk, h1, h2 => by
    have ih := plc_of (l := l) (d := d) (k := k) (by simpa using hk) (fun i p hi hp => h1 (i + 1) p (by omega) hp) (fun i p hi hp => h2 (i + 1) p (by omega) hp)
    have h0 := h1 0 a (by omega) rfl
    unfold plc at *
    rw [List.filter_cons_of_pos (by simpa using h0), List.length_cons, ih]
end SI

/-! SI 26: rows: a first day, a last day, a word; laid over one another, told in order -/
namespace SI
open PySem
structure Row where
  a : Int
  b : Int
  w : Str
deriving DecidableEq
def Row.d (r : Row) : D := .tup [.int r.a, .int r.b, .str r.w]
def rD (l : List Row) : List D := l.map Row.d
@[simp] theorem rD_nil : rD [] = [] := rfl
@[simp] theorem rD_len {l : List Row} : (rD l).length = l.length := List.length_map _
@[simp] theorem rD_app {l m : List Row} : rD l ++ rD m = rD (l ++ m) := List.map_append.symm
@[simp] theorem rD_one {l : List Row} {x y : Int} {w : Str} : rD l ++ [.tup [.int x, .int y, .str w]] = rD (l ++ [⟨x, y, w⟩]) := by simp [rD, Row.d]
theorem rD_get {l : List Row} {i : Nat} {d : D} (h : (rD l)[i]? = some d) : ∃ p : Row, d = .tup [.int p.a, .int p.b, .str p.w] ∧ l[i]? = some p := by
  unfold rD at h
  rw [List.getElem?_map] at h
  cases q : l[i]? with
  | none => rw [q] at h; cases h
  | some y => rw [q] at h; cases h; exact ⟨y, rfl, rfl⟩
theorem wAt_rD {l : List Row} {k : Nat} {p : Row} {Q : D → Prop} (h : l[k]? = some p) : rho (wAt (rD l) (k : Int) Q) = rho (Q (.tup [.int p.a, .int p.b, .str p.w])) := congrArg rho (wAt_of (L2.atI_nat (by simp [rD, h, Row.d])))
def Row.k (r : Row) : List Pc := [.inl r.a, .inl r.b, .inr r.w]
def ltR (x y : Row) : Bool := ltPs x.k y.k
theorem srtOk_rD (l : List Row) : srtOk (rD l) = true := by
  unfold srtOk
  rw [Bool.or_eq_true, Bool.or_eq_true]; right; right
  cases l with
  | nil => rfl
  | cons a r =>
    show ((rD r).all fun e => decide (tupSh e = some [false, false, true])) = true
    rw [List.all_eq_true]
    intro d hd
    obtain ⟨p, _, rfl⟩ := List.mem_map.1 hd
    rfl
theorem sort_rD (l : List Row) : sortBy ltSrt (rD l) = rD (sortBy ltR l) := (sort_map (lt := ltR) (lt2 := ltSrt) (f := Row.d) fun x _ y _ => rfl).symm
@[simp ↓] theorem wSrt_rD {l : List Row} {Q : List D → Prop} : rho (wSrt (rD l) Q) = rho (Q (rD (sortBy ltR l))) := by
  unfold wSrt
  rw [sort_rD]
  simp [srtOk_rD, rho]
theorem ltR_false {x y : Row} (h : ltR y x = false) : x.a ≤ y.a := by
  unfold ltR Row.k at h
  simp only [ltPs, ltPc] at h
  by_cases q : y.a = x.a
  · omega
  · simp [q] at h
    exact h
theorem sortR_firsts (l : List Row) : (sortBy ltR l).Pairwise fun x y => x.a ≤ y.a := (sort_sorted (swo_of Row.k) l).imp fun h => ltR_false h
/-! ### == -/
def rOk (l : List Row) : Prop := ∀ r ∈ l, PyData.strOk r.w = true
theorem rD_isP {l : List Row} {s : Store} {k : Nat} (h : rOk l) : (rD l).all (isP (k + 1) s) = true := by
  unfold rD
  rw [List.all_map, List.all_eq_true]
  intro p hp
  have := h p hp
  show ([D.int p.a, D.int p.b, D.str p.w].all (isP k s)) = true
  cases k <;> simp [isP, this]
theorem rD_eqs {s : Store} {k : Nat} : ∀ {l m : List Row}, eqs (eqB (k + 1) s) (rD l) (rD m) = decide (l = m)
  | [], [] => rfl
  | [], _ :: _ => by simp [rD, eqs]
  | _ :: _, [] => by simp [rD, eqs]
  | ⟨a, b, u⟩ :: l, ⟨c, d, v⟩ :: m => by
    have ih := rD_eqs (s := s) (k := k) (l := l) (m := m)
    show (eqs (eqB k s) [.int a, .int b, .str u] [.int c, .int d, .str v] && eqs (eqB (k + 1) s) (rD l) (rD m)) = _
    rw [ih]
    simp only [eqs, eqB_int, eqB_str, Bool.and_true]
    rw [Bool.eq_iff_iff]
    simp [and_assoc]
theorem rD_ref {s : Store} {n : Nat} {l : List Row} (h : s[n]? = some (.lst (rD l))) (ho : rOk l) : lstE s (.v (.ref n)) = some (rD l) ∧ isPE s (.v (.ref n)) = true := ⟨itRef h, isPE_ref h (rD_isP ho)⟩
theorem wC_rDne {s : Store} {a b : Nat} {l m : List Row} {Q : Bool → Prop} (h1 : s[a]? = some (.lst (rD l))) (h2 : s[b]? = some (.lst (rD m))) (o1 : rOk l) (o2 : rOk m) : rho (wC .ne (.v (.ref a)) (.v (.ref b)) s Q) = rho (Q (!decide (l = m))) := by
  obtain ⟨e1, p1⟩ := rD_ref h1 o1
  obtain ⟨e2, p2⟩ := rD_ref h2 o2
  show rho (wOf ((eqE (.v (.ref a)) (.v (.ref b)) s).map not) Q) = _
  rw [eqE_l e1 e2 p1 p2, rD_eqs]; rfl
theorem wC_rDeq {s : Store} {a b : Nat} {l m : List Row} {Q : Bool → Prop} (h1 : s[a]? = some (.lst (rD l))) (h2 : s[b]? = some (.lst (rD m))) (o1 : rOk l) (o2 : rOk m) : rho (wC .eq (.v (.ref a)) (.v (.ref b)) s Q) = rho (Q (decide (l = m))) := by
  obtain ⟨e1, p1⟩ := rD_ref h1 o1
  obtain ⟨e2, p2⟩ := rD_ref h2 o2
  show rho (wOf (eqE (.v (.ref a)) (.v (.ref b)) s) Q) = _
  rw [eqE_l e1 e2 p1 p2, rD_eqs]; rfl
theorem wC_rDe {s : Store} {a : Nat} {l : List Row} {Q : Bool → Prop} (h1 : s[a]? = some (.lst (rD l))) (o1 : rOk l) : rho (wC .ne (.v (.ref a)) (.t []) s Q) = rho (Q (!l.isEmpty)) := by
  obtain ⟨e1, p1⟩ := rD_ref h1 o1
  show rho (wOf ((eqE (.v (.ref a)) (.t []) s).map not) Q) = _
  rw [eqE_l (ys := []) e1 rfl p1 rfl]
  cases l <;> rfl
theorem wAt_lastR {l : List Row} {p : Row} {Q : D → Prop} : rho (wAt (rD (l ++ [p])) (-1) Q) = rho (Q (.tup [.int p.a, .int p.b, .str p.w])) := by
  rw [← rD_app]; exact wAt_last
@[simp ↓ high] theorem wSt_lastR {l : List Row} {p : Row} {a b : Int} {w : Str} {Q : Cell → Prop} : rho (wSt (.lst (rD (l ++ [p]))) (.int (-1)) (.tup [.int a, .int b, .str w]) Q) = rho (Q (.lst (rD (l ++ [⟨a, b, w⟩])))) := by
  rw [wSt_lst, ixN_last (by simp)]
  show rho (Q (.lst ((rD (l ++ [p])).set ((rD (l ++ [p])).length - 1) _))) = _
  have : (rD (l ++ [p])).set ((rD (l ++ [p])).length - 1) (.tup [.int a, .int b, .str w]) = rD (l ++ [⟨a, b, w⟩]) := by
    rw [← rD_app, ← rD_app, List.set_append_right _ _ (by simp)]
    simp [rD, Row.d]
  rw [this]
/-! ### laid -/
def Row.has (r : Row) (d : Int) : Bool := decide (r.a ≤ d) && decide (d ≤ r.b)
theorem Row.has_iff {r : Row} {d : Int} : r.has d = true ↔ r.a ≤ d ∧ d ≤ r.b := by
  unfold Row.has
  rw [Bool.and_eq_true, decide_eq_true_eq, decide_eq_true_eq]
def cut (r o : Row) : List Row := (if o.a < r.a then [⟨o.a, min o.b (r.a - 1), o.w⟩] else []) ++ (if o.b > r.b then [⟨max o.a (r.b + 1), o.b, o.w⟩] else [])
def lay (l : List Row) (r : Row) : List Row := l.flatMap (cut r) ++ [r]
/-- no day in common -/
def Dis (l : List Row) : Prop := (l.Pairwise fun x y => x.b < y.a ∨ y.b < x.a) ∧ ∀ r ∈ l, r.a ≤ r.b
theorem cut_mem {r o p : Row} (h : p ∈ cut r o) : (p = ⟨o.a, min o.b (r.a - 1), o.w⟩ ∧ o.a < r.a) ∨ (p = ⟨max o.a (r.b + 1), o.b, o.w⟩ ∧ o.b > r.b) := by
  unfold cut at h
  rcases List.mem_append.1 h with h | h
  · split at h
    · exact .inl ⟨List.mem_singleton.1 h, by assumption⟩
    · cases h
  · split at h
    · exact .inr ⟨List.mem_singleton.1 h, by assumption⟩
    · cases h
theorem cut_in {r o p : Row} (ho : o.a ≤ o.b) (h : p ∈ cut r o) : p.a ≤ p.b ∧ o.a ≤ p.a ∧ p.b ≤ o.b ∧ (p.b < r.a ∨ r.b < p.a) := by
  rcases cut_mem h with ⟨rfl, h1⟩ | ⟨rfl, h1⟩
  · refine ⟨?_, ?_, ?_, .inl ?_⟩ <;> simp only [] <;> omega
  · refine ⟨?_, ?_, ?_, .inr ?_⟩ <;> simp only [] <;> omega
theorem cut_dis {r o : Row} (hr : r.a ≤ r.b) : (cut r o).Pairwise fun x y => x.b < y.a ∨ y.b < x.a := by
  unfold cut
  split <;> split <;> simp
  omega
theorem lay_dis {l : List Row} {r : Row} (h : Dis l) (hr : r.a ≤ r.b) : Dis (lay l r) := by
  obtain ⟨h1, h2⟩ := h
  unfold lay
  refine ⟨List.pairwise_append.2 ⟨?_, List.pairwise_singleton _ _, ?_⟩, ?_⟩
  · rw [List.pairwise_flatMap]
    refine ⟨fun o _ => cut_dis hr, ?_⟩
    refine h1.imp_of_mem fun {x y} hx hy hxy p hp q hq => ?_
    have a1 := cut_in (h2 x hx) hp
    have a2 := cut_in (h2 y hy) hq
    omega
  · intro p hp q hq
    rw [List.mem_singleton.1 hq]
    obtain ⟨o, ho, hp⟩ := List.mem_flatMap.1 hp
    exact (cut_in (h2 o ho) hp).2.2.2
  · intro p hp
    rcases List.mem_append.1 hp with hp | hp
    · obtain ⟨o, ho, hp⟩ := List.mem_flatMap.1 hp
      exact (cut_in (h2 o ho) hp).1
    · rw [List.mem_singleton.1 hp]; exact hr
/-- a row over both ends -/
def strd (r o : Row) : Bool := decide (o.a < r.a) && decide (o.b > r.b)
theorem cut_len {r o : Row} : (cut r o).length ≤ 1 + (if strd r o = true then 1 else 0) := by
  unfold cut strd
  by_cases h1 : o.a < r.a <;> by_cases h2 : o.b > r.b <;> simp [h1, h2]
theorem flat_len {r : Row} : ∀ l : List Row, (l.flatMap (cut r)).length ≤ l.length + (l.filter (strd r)).length
  | [] => by simp
  | o :: l => by
    have ih := flat_len (r := r) l
    have h1 := cut_len (r := r) (o := o)
    rw [List.flatMap_cons, List.length_append, List.length_cons]
    by_cases q : strd r o = true
    · rw [List.filter_cons_of_pos q, List.length_cons]
      rw [if_pos q] at h1; omega
    · rw [List.filter_cons_of_neg q]
      rw [if_neg q] at h1; omega
theorem strd_one {r : Row} (hr : r.a ≤ r.b) {l : List Row} (h : Dis l) : (l.filter (strd r)).length ≤ 1 := by
  have hp : (l.filter (strd r)).Pairwise fun x y => x.b < y.a ∨ y.b < x.a := h.1.filter _
  cases e : l.filter (strd r) with
  | nil => simp
  | cons x t => cases t with
    | nil => simp
    | cons y t =>
      have hx : x ∈ l.filter (strd r) := by rw [e]; simp
      have hy : y ∈ l.filter (strd r) := by rw [e]; simp
      have sx := (List.mem_filter.1 hx).2
      have sy := (List.mem_filter.1 hy).2
      unfold strd at sx sy
      rw [Bool.and_eq_true, decide_eq_true_eq, decide_eq_true_eq] at sx sy
      rw [e] at hp
      have := (List.pairwise_cons.1 hp).1 y (by simp)
      omega
theorem lay_len {l : List Row} {r : Row} (h : Dis l) (hr : r.a ≤ r.b) : (lay l r).length ≤ l.length + 2 := by
  have h1 := flat_len (r := r) l
  have h2 := strd_one hr h
  unfold lay
  rw [List.length_append, List.length_singleton]
  omega
/-- the word of a day: the last row's -/
def word (l : List Row) (d : Int) : Str := l.foldl (fun x r => if r.has d = true then r.w else x) ""
theorem word_app (l : List Row) (r : Row) (d : Int) : word (l ++ [r]) d = if r.has d = true then r.w else word l d := by
  unfold word; rw [List.foldl_append]; rfl
theorem word_one {l : List Row} {d : Int} {r : Row} (h : Dis l) (hr : r ∈ l) (hd : r.has d = true) : word l d = r.w := by
  unfold word
  suffices H : ∀ (l : List Row) (x : Str), Dis l → ((∃ r ∈ l, r.has d = true) → ∀ r ∈ l, r.has d = true → l.foldl (fun x r => if r.has d = true then r.w else x) x = r.w) ∧ ((∀ r ∈ l, r.has d = false) → l.foldl (fun x r => if r.has d = true then r.w else x) x = x) from (H l "" h).1 ⟨r, hr, hd⟩ r hr hd
  intro l
  induction l with
  | nil => exact fun x _ => ⟨fun h => (by obtain ⟨r, hr, _⟩ := h; cases hr), fun _ => rfl⟩
  | cons o l ih =>
    intro x hD
    have hp := List.pairwise_cons.1 hD.1
    have hDl : Dis l := ⟨hp.2, fun r hr => hD.2 r (List.mem_cons_of_mem _ hr)⟩
    refine ⟨fun _ r hr hd => ?_, fun hn => ?_⟩
    · show l.foldl _ (if o.has d = true then o.w else x) = _
      by_cases q : o.has d = true
      · have no : ∀ s ∈ l, s.has d = false := fun s hs => by
          rw [Bool.eq_false_iff]; intro z
          have := hp.1 s hs
          have := Row.has_iff.1 z
          have := Row.has_iff.1 q
          omega
        rw [if_pos q, (ih _ hDl).2 no]
        rcases List.mem_cons.1 hr with rfl | hr
        · rfl
        · exact absurd hd (by rw [no r hr]; simp)
      · rw [if_neg q]
        rcases List.mem_cons.1 hr with rfl | hr
        · exact absurd hd q
        · exact (ih _ hDl).1 ⟨r, hr, hd⟩ r hr hd
    · show l.foldl _ (if o.has d = true then o.w else x) = _
      rw [if_neg (by rw [hn o (by simp)]; simp)]
      exact (ih _ hDl).2 fun r hr => hn r (List.mem_cons_of_mem _ hr)
theorem word_no {l : List Row} {d : Int} (h : ∀ r ∈ l, r.has d = false) : word l d = "" := by
  unfold word
  suffices H : ∀ (l : List Row) (x : Str), (∀ r ∈ l, r.has d = false) → l.foldl (fun x r => if r.has d = true then r.w else x) x = x from H l "" h
  intro l
  induction l with
  | nil => exact fun x _ => rfl
  | cons o l ih =>
    intro x hn
    show l.foldl _ (if o.has d = true then o.w else x) = _
    rw [if_neg (by rw [hn o (by simp)]; simp)]
    exact ih x fun r hr => hn r (List.mem_cons_of_mem _ hr)
/-- two lists of rows without common days that say the same -/
theorem word_same {l m : List Row} {d : Int} (hl : Dis l) (hm : Dis m) (h1 : ∀ r ∈ l, r.has d = true → ∃ s ∈ m, s.has d = true ∧ s.w = r.w) (h2 : ∀ s ∈ m, s.has d = true → ∃ r ∈ l, r.has d = true) : word l d = word m d := by
  by_cases q : ∃ r ∈ l, r.has d = true
  · obtain ⟨r, hr, hd⟩ := q
    obtain ⟨s, hs, sd, e⟩ := h1 r hr hd
    rw [word_one hl hr hd, word_one hm hs sd, e]
  · rw [word_no fun r hr => ?_, word_no fun s hs => ?_]
    · rw [Bool.eq_false_iff]; exact fun z => q (h2 s hs z)
    · rw [Bool.eq_false_iff]; exact fun z => q ⟨r, hr, z⟩
theorem lay_word {l : List Row} {r : Row} (h : Dis l) (hr : r.a ≤ r.b) (d : Int) : word (lay l r) d = if r.has d = true then r.w else word l d := by
  unfold lay
  rw [word_app]
  by_cases q : r.has d = true
  · rw [if_pos q, if_pos q]
  rw [if_neg q, if_neg q]
  have hL : Dis (l.flatMap (cut r)) := by
    have := lay_dis h hr
    unfold lay at this
    exact ⟨(List.pairwise_append.1 this.1).1, fun x hx => this.2 x (List.mem_append_left _ hx)⟩
  have q' : ¬ (r.a ≤ d ∧ d ≤ r.b) := fun z => q (Row.has_iff.2 z)
  refine word_same hL h (fun p hp hd => ?_) fun o ho hd => ?_
  · obtain ⟨o, ho, hp⟩ := List.mem_flatMap.1 hp
    have h1 := cut_in (h.2 o ho) hp
    have h2 := Row.has_iff.1 hd
    refine ⟨o, ho, Row.has_iff.2 (by omega), ?_⟩
    rcases cut_mem hp with ⟨rfl, _⟩ | ⟨rfl, _⟩ <;> rfl
  · have h2 := Row.has_iff.1 hd
    have h3 := h.2 o ho
    by_cases z : d < r.a
    · exact ⟨⟨o.a, min o.b (r.a - 1), o.w⟩, List.mem_flatMap.2 ⟨o, ho, by unfold cut; rw [if_pos (by omega)]; simp⟩, Row.has_iff.2 ⟨h2.1, by show d ≤ min o.b (r.a - 1); omega⟩⟩
    · exact ⟨⟨max o.a (r.b + 1), o.b, o.w⟩, List.mem_flatMap.2 ⟨o, ho, by unfold cut; rw [if_pos (show o.b > r.b by omega)]; simp⟩, Row.has_iff.2 ⟨by show max o.a (r.b + 1) ≤ d; omega, h2.2⟩⟩
theorem lays_ok : ∀ {l a : List Row}, (∀ r ∈ l, r.a ≤ r.b) → Dis a → Dis (l.foldl lay a) ∧ (∀ d, word (l.foldl lay a) d = l.foldl (fun x r => if r.has d = true then r.w else x) (word a d)) ∧ (l.foldl lay a).length ≤ a.length + 2 * l.length
  | [], a, _, h => ⟨h, fun _ => rfl, by simp⟩
  | r :: l, a, hl, h => by
    have hr := hl r (List.mem_cons_self ..)
    obtain ⟨k1, k2, k3⟩ := lays_ok (l := l) (a := lay a r) (fun x hx => hl x (List.mem_cons_of_mem _ hx)) (lay_dis h hr)
    refine ⟨k1, fun d => ?_, ?_⟩
    · show word (l.foldl lay (lay a r)) d = l.foldl _ (if r.has d = true then r.w else word a d)
      rw [k2, lay_word h hr]
    · have := lay_len h hr
      show (l.foldl lay (lay a r)).length ≤ a.length + 2 * (l.length + 1)
      omega
theorem dis_nil : Dis [] := ⟨List.Pairwise.nil, fun r hr => by cases hr⟩
theorem ins_perm {α : Type} {lt : α → α → Bool} {x : α} : ∀ l : List α, (insBy lt x l).Perm (x :: l)
  | [] => List.Perm.refl _
  | y :: ys => by
    unfold insBy
    split
    · exact (List.Perm.cons y (ins_perm ys)).trans (List.Perm.swap x y ys)
    · exact List.Perm.refl _
theorem sort_perm {α : Type} {lt : α → α → Bool} : ∀ l : List α, (sortBy lt l).Perm l
  | [] => List.Perm.refl _
  | x :: xs => (ins_perm (sortBy lt xs)).trans (List.Perm.cons x (sort_perm xs))
/-! ### told in order -/
def Ord (l : List Row) : Prop := (l.Pairwise fun x y => x.b < y.a) ∧ ∀ r ∈ l, r.a ≤ r.b
theorem Ord.dis {l : List Row} (h : Ord l) : Dis l := ⟨h.1.imp fun z => .inl z, h.2⟩
theorem dis_sort {l : List Row} (h : Dis l) : Ord (sortBy ltR l) := by
  have hp : (sortBy ltR l).Pairwise fun x y => x.b < y.a ∨ y.b < x.a := (List.Perm.pairwise_iff (fun z => z.symm) (sort_perm l)).2 h.1
  have h2 : ∀ r ∈ sortBy ltR l, r.a ≤ r.b := fun r hr => h.2 r (sort_mem.1 hr)
  refine ⟨(hp.and (sortR_firsts l)).imp_of_mem fun {x y} hx hy z => ?_, h2⟩
  have := h2 x hx
  have := h2 y hy
  have := z.1
  have := z.2
  omega
def oR : List Row → Row → List Row
  | [], r => [r]
  | q :: t, r => if q.b + 1 = r.a ∧ q.w = r.w then ⟨q.a, r.b, r.w⟩ :: t else r :: q :: t
theorem oR_cons {q r : Row} {t : List Row} : oR (q :: t) r = if q.b + 1 = r.a ∧ q.w = r.w then ⟨q.a, r.b, r.w⟩ :: t else r :: q :: t := rfl
def ovl (l : List Row) : List Row := ((sortBy ltR (l.foldl lay [])).foldl oR []).reverse
def says (l : List Row) (d : Int) (w : Str) : Prop := ∃ r ∈ l, r.has d = true ∧ r.w = w
theorem says_cons {r : Row} {l : List Row} {d : Int} {w : Str} : says (r :: l) d w ↔ (r.has d = true ∧ r.w = w) ∨ says l d w := by
  unfold says
  constructor
  · rintro ⟨x, hx, h⟩
    rcases List.mem_cons.1 hx with rfl | hx
    · exact .inl h
    · exact .inr ⟨x, hx, h⟩
  · rintro (h | ⟨x, hx, h⟩)
    · exact ⟨r, List.mem_cons_self .., h⟩
    · exact ⟨x, List.mem_cons_of_mem _ hx, h⟩
def OrdR (l : List Row) : Prop := (l.Pairwise fun y x => x.b < y.a) ∧ ∀ r ∈ l, r.a ≤ r.b
def AdjR (l : List Row) : Prop := ∀ u y x t, l = u ++ y :: x :: t → ¬ (x.b + 1 = y.a ∧ x.w = y.w)
theorem oR_ok {acc : List Row} {r : Row} (h : OrdR acc) (ha : AdjR acc) (hr : r.a ≤ r.b) (hq : ∀ q ∈ acc, q.b < r.a) : OrdR (oR acc r) ∧ AdjR (oR acc r) ∧ (∀ d w, says (oR acc r) d w ↔ says acc d w ∨ (r.has d = true ∧ r.w = w)) ∧ ∀ q ∈ oR acc r, q.b ≤ r.b := by
  cases acc with
  | nil =>
    refine ⟨⟨List.pairwise_singleton _ _, fun x hx => by rw [List.mem_singleton.1 hx]; exact hr⟩, fun u y x t e => ?_, fun d w => ?_, fun x hx => by rw [List.mem_singleton.1 hx]; exact Int.le_refl _⟩
    · have := congrArg List.length e
      simp [oR] at this
      omega
    · show says [r] d w ↔ _
      rw [says_cons]
      constructor
      · rintro (z | ⟨x, hx, _⟩)
        · exact .inr z
        · cases hx
      · rintro (⟨x, hx, _⟩ | z)
        · cases hx
        · exact .inl z
  | cons q t =>
    obtain ⟨h1, h2⟩ := h
    have h1' := List.pairwise_cons.1 h1
    have hq0 := hq q (List.mem_cons_self ..)
    have hqq := h2 q (List.mem_cons_self ..)
    rw [oR_cons]
    by_cases c : q.b + 1 = r.a ∧ q.w = r.w
    · rw [if_pos c]
      refine ⟨⟨List.pairwise_cons.2 ⟨h1'.1, h1'.2⟩, fun x hx => ?_⟩, fun u y x t' e => ?_, fun d w => ?_, fun x hx => ?_⟩
      · rcases List.mem_cons.1 hx with rfl | hx
        · show q.a ≤ r.b; omega
        · exact h2 x (List.mem_cons_of_mem _ hx)
      · cases u with
        | nil =>
          obtain ⟨rfl, e2⟩ := List.cons.inj e
          have := ha [] q x t' (by rw [e2]; rfl)
          rw [c.2] at this
          exact this
        | cons v u =>
          obtain ⟨rfl, e2⟩ := List.cons.inj e
          exact ha (q :: u) y x t' (by rw [e2]; rfl)
      · rw [says_cons, says_cons]
        have e1 : ∀ w', (Row.mk q.a r.b r.w).has d = true ∧ (Row.mk q.a r.b r.w).w = w' ↔ (q.has d = true ∧ q.w = w') ∨ (r.has d = true ∧ r.w = w') := fun w' => by
          rw [Row.has_iff, Row.has_iff, Row.has_iff, c.2]
          show (q.a ≤ d ∧ d ≤ r.b) ∧ r.w = w' ↔ _
          constructor
          · rintro ⟨⟨a1, a2⟩, a3⟩
            by_cases z : d ≤ q.b
            · exact .inl ⟨⟨a1, z⟩, a3⟩
            · exact .inr ⟨⟨by omega, a2⟩, a3⟩
          · rintro (⟨⟨a1, a2⟩, a3⟩ | ⟨⟨a1, a2⟩, a3⟩)
            · exact ⟨⟨a1, by omega⟩, a3⟩
            · exact ⟨⟨by omega, a2⟩, a3⟩
        rw [e1]
        constructor
        · rintro ((z | z) | z)
          · exact .inl (.inl z)
          · exact .inr z
          · exact .inl (.inr z)
        · rintro ((z | z) | z)
          · exact .inl (.inl z)
          · exact .inr z
          · exact .inl (.inr z)
      · rcases List.mem_cons.1 hx with rfl | hx
        · exact Int.le_refl _
        · have := hq x (List.mem_cons_of_mem _ hx); omega
    · rw [if_neg c]
      refine ⟨⟨List.pairwise_cons.2 ⟨fun x hx => hq x hx, h1⟩, fun x hx => ?_⟩, fun u y x t' e => ?_, fun d w => ?_, fun x hx => ?_⟩
      · rcases List.mem_cons.1 hx with rfl | hx
        · exact hr
        · exact h2 x hx
      · cases u with
        | nil =>
          obtain ⟨rfl, e2⟩ := List.cons.inj e
          obtain ⟨rfl, e3⟩ := List.cons.inj e2
          exact c
        | cons v u =>
          obtain ⟨rfl, e2⟩ := List.cons.inj e
          exact ha u y x t' e2
      · rw [says_cons]; exact ⟨fun z => z.symm, fun z => z.symm⟩
      · rcases List.mem_cons.1 hx with rfl | hx
        · exact Int.le_refl _
        · have := hq x hx; omega
theorem oR_fold : ∀ {l acc : List Row}, OrdR acc → AdjR acc → Ord l → (∀ q ∈ acc, ∀ p ∈ l, q.b < p.a) → OrdR (l.foldl oR acc) ∧ AdjR (l.foldl oR acc) ∧ ∀ d w, says (l.foldl oR acc) d w ↔ says acc d w ∨ says l d w
  | [], acc, h, ha, _, _ => ⟨h, ha, fun d w => ⟨.inl, fun z => z.elim id fun ⟨x, hx, _⟩ => by cases hx⟩⟩
  | r :: l, acc, h, ha, ho, hq => by
    have ho' := List.pairwise_cons.1 ho.1
    obtain ⟨k1, k2, k3, k4⟩ := oR_ok h ha (ho.2 r (List.mem_cons_self ..)) fun q hh => hq q hh r (List.mem_cons_self ..)
    obtain ⟨m1, m2, m3⟩ := oR_fold (l := l) k1 k2 ⟨ho'.2, fun x hx => ho.2 x (List.mem_cons_of_mem _ hx)⟩ fun q hh p hp => Int.lt_of_le_of_lt (k4 q hh) (ho'.1 p hp)
    refine ⟨m1, m2, fun d w => ?_⟩
    show says (l.foldl oR (oR acc r)) d w ↔ _
    rw [m3, k3, says_cons, or_assoc]
def Adj (l : List Row) : Prop := ∀ i x y, l[i]? = some x → l[i + 1]? = some y → ¬ (x.b + 1 = y.a ∧ x.w = y.w)
theorem adj_rev {l : List Row} (h : AdjR l) : Adj l.reverse := fun i x y hx hy => by
  obtain ⟨i1, rfl⟩ := List.getElem?_eq_some_iff.1 hx
  obtain ⟨i2, rfl⟩ := List.getElem?_eq_some_iff.1 hy
  have e : l.reverse = l.reverse.take i ++ l.reverse[i] :: l.reverse[i + 1] :: l.reverse.drop (i + 2) := by
    rw [← List.drop_eq_getElem_cons, ← List.drop_eq_getElem_cons, List.take_append_drop]
  have e2 := congrArg List.reverse e
  rw [List.reverse_reverse] at e2
  refine h (l.reverse.drop (i + 2)).reverse _ _ (l.reverse.take i).reverse ?_
  refine e2.trans ?_
  simp
theorem oR_len (l : List Row) (p : Row) : (oR l p).length ≤ l.length + 1 := by
  cases l with
  | nil => exact Nat.le_refl _
  | cons q r =>
    rw [oR_cons]
    split <;> simp
theorem oRs_len : ∀ (l a : List Row), (l.foldl oR a).length ≤ l.length + a.length
  | [], a => by simp
  | p :: l, a => by
    have h1 := oRs_len l (oR a p)
    have h2 := oR_len a p
    show (l.foldl oR (oR a p)).length ≤ l.length + 1 + a.length
    omega
theorem ovl_len {l : List Row} (hl : ∀ r ∈ l, r.a ≤ r.b) : (ovl l).length ≤ 2 * l.length := by
  have h1 := oRs_len (sortBy ltR (l.foldl lay [])) []
  have h2 := (lays_ok hl dis_nil).2.2
  rw [sort_len] at h1
  unfold ovl
  rw [List.length_reverse]
  simp at h1 h2
  omega
theorem ovl_ok {l : List Row} (hl : ∀ r ∈ l, r.a ≤ r.b) : Ord (ovl l) ∧ Adj (ovl l) ∧ ∀ d, word (ovl l) d = word l d := by
  obtain ⟨k1, k2, _⟩ := lays_ok hl dis_nil
  have k3 := dis_sort k1
  obtain ⟨⟨m1, m1'⟩, m2, m3⟩ := oR_fold (acc := []) ⟨List.Pairwise.nil, fun r hr => by cases hr⟩ (fun u y x t e => by simp at e) k3 fun q hq => by cases hq
  have ho : Ord (ovl l) := ⟨by unfold ovl; rw [List.pairwise_reverse]; exact m1, fun r hr => m1' r (List.mem_reverse.1 hr)⟩
  have hs : ∀ d w, says (ovl l) d w ↔ says (l.foldl lay []) d w := fun d w => by
    have e1 : says (ovl l) d w ↔ says ((sortBy ltR (l.foldl lay [])).foldl oR []) d w := by
      unfold says ovl
      constructor
      · rintro ⟨r, hr, h⟩; exact ⟨r, List.mem_reverse.1 hr, h⟩
      · rintro ⟨r, hr, h⟩; exact ⟨r, List.mem_reverse.2 hr, h⟩
    have e2 : says (sortBy ltR (l.foldl lay [])) d w ↔ says (l.foldl lay []) d w := by
      unfold says
      constructor
      · rintro ⟨r, hr, h⟩; exact ⟨r, sort_mem.1 hr, h⟩
      · rintro ⟨r, hr, h⟩; exact ⟨r, sort_mem.2 hr, h⟩
    rw [e1, m3, e2]
    exact ⟨fun z => z.elim (fun ⟨x, hx, _⟩ => by cases hx) id, .inr⟩
  refine ⟨ho, adj_rev m2, fun d => ?_⟩
  rw [show word l d = word (l.foldl lay []) d from (k2 d).symm]
  refine word_same ho.dis k1 (fun r hr hd => ?_) fun s hs' hd => ?_
  · obtain ⟨s, h1, h2, h3⟩ := (hs d r.w).1 ⟨r, hr, hd, rfl⟩
    exact ⟨s, h1, h2, h3⟩
  · obtain ⟨s, h1, h2, _⟩ := (hs d s.w).2 ⟨s, hs', hd, rfl⟩
    exact ⟨s, h1, h2⟩
/-! ### the words -/
theorem lay_rok {l : List Row} {r : Row} (h : rOk l) (hr : PyData.strOk r.w = true) : rOk (lay l r) := fun p hp => by
  unfold lay at hp
  rcases List.mem_append.1 hp with hp | hp
  · obtain ⟨o, ho, hp⟩ := List.mem_flatMap.1 hp
    rcases cut_mem hp with ⟨rfl, _⟩ | ⟨rfl, _⟩ <;> exact h o ho
  · rw [List.mem_singleton.1 hp]; exact hr
theorem lays_rok : ∀ {l a : List Row}, rOk l → rOk a → rOk (l.foldl lay a)
  | [], a, _, h => h
  | r :: l, a, hl, h => lays_rok (l := l) (fun x hx => hl x (List.mem_cons_of_mem _ hx)) (lay_rok h (hl r (List.mem_cons_self ..)))
theorem oR_rok {l : List Row} {r : Row} (h : rOk l) (hr : PyData.strOk r.w = true) : rOk (oR l r) := fun p hp => by
  cases l with
  | nil => rw [List.mem_singleton.1 hp]; exact hr
  | cons q t =>
    rw [oR_cons] at hp
    split at hp
    · rcases List.mem_cons.1 hp with rfl | hp
      · exact hr
      · exact h p (List.mem_cons_of_mem _ hp)
    · rcases List.mem_cons.1 hp with rfl | hp
      · exact hr
      · exact h p hp
theorem oRs_rok : ∀ {l a : List Row}, rOk l → rOk a → rOk (l.foldl oR a)
  | [], a, _, h => h
  | r :: l, a, hl, h => oRs_rok (l := l) (fun x hx => hl x (List.mem_cons_of_mem _ hx)) (oR_rok h (hl r (List.mem_cons_self ..)))
theorem rOk_nil : rOk [] := fun p hp => by cases hp
theorem sort_rok {l : List Row} (h : rOk l) : rOk (sortBy ltR l) := fun p hp => h p (sort_mem.1 hp)
theorem ovl_rok {l : List Row} (h : rOk l) : rOk (ovl l) := fun p hp => oRs_rok (sort_rok (lays_rok h rOk_nil)) rOk_nil p (List.mem_reverse.1 hp)
end SI

set_option maxHeartbeats 0
namespace SI.K22
open PySem
abbrev body : List Stmt := PySem.Challenge.pw_termcourt_k22_the_last_row_says.main.body
/-- [told, row, left, old] -/
def b_f_laid : S := (.seq (.asg 2 (.lst .nil))
  (.seq (.loop [3] true (.seq (.loc 0)) (.seq (.ifs (.cmp .lt (.idx (.loc 3) (.int 0)) (.idx (.loc 1) (.int 0))) (.seq (.expr (.bm .append (.loc 2) (.cons (.tup (.cons (.idx (.loc 3) (.int 0)) (.cons (.bi .min (.cons (.idx (.loc 3) (.int 1)) (.cons (.bin .sub (.idx (.loc 1) (.int 0)) (.int 1)) .nil))) (.cons (.idx (.loc 3) (.int 2)) .nil)))) .nil)))
  .nop) .nop)
  (.seq (.ifs (.cmp .gt (.idx (.loc 3) (.int 1)) (.idx (.loc 1) (.int 1))) (.seq (.expr (.bm .append (.loc 2) (.cons (.tup (.cons (.bi .max (.cons (.idx (.loc 3) (.int 0)) (.cons (.bin .add (.idx (.loc 1) (.int 1)) (.int 1)) .nil))) (.cons (.idx (.loc 3) (.int 1)) (.cons (.idx (.loc 3) (.int 2)) .nil)))) .nil)))
  .nop) .nop)
  .nop)))
  (.seq (.expr (.bm .append (.loc 2) (.cons (.tup (.cons (.idx (.loc 1) (.int 0)) (.cons (.idx (.loc 1) (.int 1)) (.cons (.idx (.loc 1) (.int 2)) .nil)))) .nil)))
  (.seq (.ret (.loc 2))
  .nop))))
def f_laid : Fn := { np := 2, ns := 4, dfl := [], body := b_f_laid }
/-- [rows, over, row, told] -/
def b_f_overlay : S := (.seq (.asg 1 (.lst .nil))
  (.seq (.loop [2] true (.seq (.loc 0)) (.seq (.asg 1 (.call "laid" (.cons (.loc 1) (.cons (.loc 2) .nil))))
  .nop))
  (.seq (.asg 3 (.lst .nil))
  (.seq (.loop [2] true (.seq (.bi .sorted (.cons (.loc 1) .nil))) (.seq (.ifs (.and (.cmp .ne (.loc 3) (.lst .nil)) (.and (.cmp .eq (.bin .add (.idx (.idx (.loc 3) (.neg (.int 1))) (.int 1)) (.int 1)) (.idx (.loc 2) (.int 0))) (.cmp .eq (.idx (.idx (.loc 3) (.neg (.int 1))) (.int 2)) (.idx (.loc 2) (.int 2))))) (.seq (.setI (.loc 3) (.neg (.int 1)) (.tup (.cons (.idx (.idx (.loc 3) (.neg (.int 1))) (.int 0)) (.cons (.idx (.loc 2) (.int 1)) (.cons (.idx (.loc 2) (.int 2)) .nil)))))
  .nop) (.seq (.expr (.bm .append (.loc 3) (.cons (.loc 2) .nil)))
  .nop))
  .nop))
  (.seq (.ret (.loc 3))
  .nop)))))
def f_overlay : Fn := { np := 1, ns := 4, dfl := [], body := b_f_overlay }
/-- [stretches, day, low, high, half] -/
def b_f_place : S := (.seq (.asg 2 (.int 0))
  (.seq (.asg 3 (.bi .len (.cons (.loc 0) .nil)))
  (.seq (.whl (.cmp .lt (.loc 2) (.loc 3)) (.seq (.asg 4 (.bin .fdiv (.bin .add (.loc 2) (.loc 3)) (.int 2)))
  (.seq (.ifs (.cmp .lt (.idx (.idx (.loc 0) (.loc 4)) (.int 1)) (.loc 1)) (.seq (.asg 2 (.bin .add (.loc 4) (.int 1)))
  .nop) (.seq (.asg 3 (.loc 4))
  .nop))
  .nop)))
  (.seq (.ret (.loc 2))
  .nop))))
def f_place : Fn := { np := 2, ns := 5, dfl := [], body := b_f_place }
/-- [_law_script, _law_k] -/
def b_f__law_cell : S := (.seq (.ifs (.cmp .lt (.loc 1) (.bi .len (.cons (.loc 0) .nil))) (.seq (.ret (.idx (.loc 0) (.loc 1)))
  .nop) .nop)
  (.seq (.ret (.int 0))
  .nop))
def f__law_cell : Fn := { np := 2, ns := 2, dfl := [], body := b_f__law_cell }
/-- [_law_found] -/
def b_f__law_whole : S := (.seq (.ret (.and (.isi (.loc 0) [.bi .int] true) (.not (.isi (.loc 0) [.bi .bool] true))))
  .nop)
def f__law_whole : Fn := { np := 1, ns := 1, dfl := [], body := b_f__law_whole }
/-- [_law_script] -/
def b_f__law_base : S := (.seq (.ifs (.cmp .eq (.bin .mod (.bin .fdiv (.call "_law_cell" (.cons (.loc 0) (.cons (.int 1) .nil))) (.int 72)) (.int 2)) (.int 1)) (.seq (.ret (.bin .sub (.bin .mod (.call "_law_cell" (.cons (.loc 0) (.cons (.int 0) .nil))) (.int 60)) (.int 30)))
  .nop) .nop)
  (.seq (.ret (.bin .sub (.bin .mod (.call "_law_cell" (.cons (.loc 0) (.cons (.int 0) .nil))) (.bin .mul (.int 2) (.bin .pow (.int 10) (.int 60)))) (.bin .pow (.int 10) (.int 60))))
  .nop))
def f__law_base : Fn := { np := 1, ns := 1, dfl := [], body := b_f__law_base }
/-- [_law_script, _law_base_here, _law_spread, _law_some_here, _law_k, _law_size, _law_first] -/
def b_f__law_some : S := (.seq (.asg 1 (.call "_law_base" (.cons (.loc 0) .nil)))
  (.seq (.asg 2 (.idx (.lst (.cons (.int 20) (.cons (.int 400) (.cons (.bin .pow (.int 10) (.int 60)) .nil)))) (.bin .mod (.call "_law_cell" (.cons (.loc 0) (.cons (.int 1) .nil))) (.int 3))))
  (.seq (.asg 3 (.lst .nil))
  (.seq (.loop [4] true (.rng (.cons (.int 2) (.cons (.bin .sub (.bi .min (.cons (.bi .len (.cons (.loc 0) .nil)) (.cons (.int 62) .nil))) (.int 2)) (.cons (.int 3) .nil)))) (.seq (.asg 5 (.bin .mod (.idx (.loc 0) (.bin .add (.loc 4) (.int 1))) (.int 8)))
  (.seq (.ifs (.cmp .eq (.bin .mod (.bin .fdiv (.idx (.loc 0) (.bin .add (.loc 4) (.int 1))) (.int 8)) (.int 5)) (.int 1)) (.seq (.asg 5 (.bin .mod (.bin .fdiv (.idx (.loc 0) (.bin .add (.loc 4) (.int 1))) (.int 40)) (.loc 2)))
  .nop) .nop)
  (.seq (.asg 6 (.bin .add (.loc 1) (.bin .mod (.idx (.loc 0) (.loc 4)) (.loc 2))))
  (.seq (.expr (.bm .append (.loc 3) (.cons (.tup (.cons (.loc 6) (.cons (.bin .add (.loc 6) (.loc 5)) (.cons (.idx (.lst (.cons (.str "free") (.cons (.str "open") .nil))) (.bin .mod (.idx (.loc 0) (.bin .add (.loc 4) (.int 2))) (.int 2))) .nil)))) .nil)))
  .nop)))))
  (.seq (.ret (.loc 3))
  .nop)))))
def f__law_some : Fn := { np := 1, ns := 7, dfl := [], body := b_f__law_some }
/-- [_law_one] -/
def b_f__law_row : S := (.seq (.ifs (.or (.not (.isi (.loc 0) [.bi .tuple] true)) (.cmp .ne (.bi .len (.cons (.loc 0) .nil)) (.int 3))) (.seq (.ret (.bl false))
  .nop) .nop)
  (.seq (.ifs (.or (.not (.call "_law_whole" (.cons (.idx (.loc 0) (.int 0)) .nil))) (.or (.not (.call "_law_whole" (.cons (.idx (.loc 0) (.int 1)) .nil))) (.not (.isi (.idx (.loc 0) (.int 2)) [.bi .str] true)))) (.seq (.ret (.bl false))
  .nop) .nop)
  (.seq (.ret (.cmp .le (.idx (.loc 0) (.int 0)) (.idx (.loc 0) (.int 1))))
  .nop)))
def f__law_row : Fn := { np := 1, ns := 1, dfl := [], body := b_f__law_row }
/-- [_law_told, _law_k] -/
def b_f__law_apart : S := (.seq (.ifs (.not (.isi (.loc 0) [.bi .list] true)) (.seq (.ret (.bl false))
  .nop) .nop)
  (.seq (.loop [1] true (.rng (.cons (.bi .len (.cons (.loc 0) .nil)) .nil)) (.seq (.ifs (.not (.call "_law_row" (.cons (.idx (.loc 0) (.loc 1)) .nil))) (.seq (.ret (.bl false))
  .nop) .nop)
  (.seq (.ifs (.and (.cmp .gt (.loc 1) (.int 0)) (.cmp .le (.idx (.idx (.loc 0) (.loc 1)) (.int 0)) (.idx (.idx (.loc 0) (.bin .sub (.loc 1) (.int 1))) (.int 1)))) (.seq (.ret (.bl false))
  .nop) .nop)
  (.seq (.ifs (.and (.cmp .gt (.loc 1) (.int 0)) (.and (.cmp .eq (.idx (.idx (.loc 0) (.loc 1)) (.int 0)) (.bin .add (.idx (.idx (.loc 0) (.bin .sub (.loc 1) (.int 1))) (.int 1)) (.int 1))) (.cmp .eq (.idx (.idx (.loc 0) (.loc 1)) (.int 2)) (.idx (.idx (.loc 0) (.bin .sub (.loc 1) (.int 1))) (.int 2))))) (.seq (.ret (.bl false))
  .nop) .nop)
  .nop))))
  (.seq (.ret (.bl true))
  .nop)))
def f__law_apart : Fn := { np := 1, ns := 2, dfl := [], body := b_f__law_apart }
/-- [_law_some_here, _law_day, _law_word_here, _law_one] -/
def b_f__law_word : S := (.seq (.asg 2 (.str ""))
  (.seq (.loop [3] true (.seq (.loc 0)) (.seq (.ifs (.and (.cmp .le (.idx (.loc 3) (.int 0)) (.loc 1)) (.cmp .le (.loc 1) (.idx (.loc 3) (.int 1)))) (.seq (.asg 2 (.idx (.loc 3) (.int 2)))
  .nop) .nop)
  .nop))
  (.seq (.ret (.loc 2))
  .nop)))
def f__law_word : Fn := { np := 2, ns := 4, dfl := [], body := b_f__law_word }
/-- [_law_told, _law_day, _law_found, _law_one] -/
def b_f__law_place : S := (.seq (.asg 2 (.call "place" (.cons (.loc 0) (.cons (.loc 1) .nil))))
  (.seq (.ret (.and (.call "_law_whole" (.cons (.loc 2) .nil)) (.cmp .eq (.loc 2) (.bi .len (.cons (.lc [3] true (.seq (.loc 0)) (some (.cmp .lt (.idx (.loc 3) (.int 1)) (.loc 1))) (.loc 3)) .nil)))))
  .nop))
def f__law_place : Fn := { np := 2, ns := 4, dfl := [], body := b_f__law_place }
/-- [_law_script, _law_some_here, _law_handed, _law_told, _law_one, _law_day, _law_kept] -/
def b_f_law : S := (.seq (.asg 1 (.call "_law_some" (.cons (.loc 0) .nil)))
  (.seq (.asg 2 (.bi .list (.cons (.loc 1) .nil)))
  (.seq (.asg 3 (.call "overlay" (.cons (.loc 2) .nil)))
  (.seq (.ifs (.not (.call "_law_apart" (.cons (.loc 3) .nil))) (.seq (.ret (.bl false))
  .nop) .nop)
  (.seq (.loop [4] true (.seq (.bin .add (.loc 1) (.loc 3))) (.seq (.loop [5] true (.seq (.lst (.cons (.idx (.loc 4) (.int 0)) (.cons (.bin .add (.idx (.loc 4) (.int 1)) (.int 1)) .nil)))) (.seq (.ifs (.cmp .ne (.call "_law_word" (.cons (.loc 1) (.cons (.loc 5) .nil))) (.call "_law_word" (.cons (.loc 3) (.cons (.loc 5) .nil)))) (.seq (.ret (.bl false))
  .nop) .nop)
  .nop))
  .nop))
  (.seq (.asg 6 (.bi .list (.cons (.loc 3) .nil)))
  (.seq (.expr (.bm .clear (.loc 3) .nil))
  (.seq (.ifs (.cmp .ne (.loc 2) (.loc 1)) (.seq (.ret (.bl false))
  .nop) .nop)
  (.seq (.asg 3 (.call "overlay" (.cons (.loc 2) .nil)))
  (.seq (.ifs (.or (.not (.call "_law_apart" (.cons (.loc 3) .nil))) (.cmp .ne (.loc 3) (.loc 6))) (.seq (.ret (.bl false))
  .nop) .nop)
  (.seq (.loop [4] true (.seq (.loc 6)) (.seq (.loop [5] true (.seq (.lst (.cons (.idx (.loc 4) (.int 0)) (.cons (.idx (.loc 4) (.int 1)) (.cons (.bin .add (.idx (.loc 4) (.int 1)) (.int 1)) .nil))))) (.seq (.ifs (.not (.call "_law_place" (.cons (.loc 3) (.cons (.loc 5) .nil)))) (.seq (.ret (.bl false))
  .nop) .nop)
  .nop))
  .nop))
  (.seq (.ret (.cmp .eq (.loc 3) (.loc 6)))
  .nop))))))))))))
def f_law : Fn := { np := 1, ns := 7, dfl := [], body := b_f_law }
def prog : Prog := { fns := [(("laid", none), f_laid), (("overlay", none), f_overlay), (("place", none), f_place), (("_law_cell", none), f__law_cell), (("_law_whole", none), f__law_whole), (("_law_base", none), f__law_base), (("_law_some", none), f__law_some), (("_law_row", none), f__law_row), (("_law_apart", none), f__law_apart), (("_law_word", none), f__law_word), (("_law_place", none), f__law_place), (("law", none), f_law)], consts := [], excs := [] }
@[simp ↓] theorem c_f_laid {go : Go} {env : Env} {st : Store} {Q : QE} {X : XC} {a0 a1 : E} : rho (wE prog go (.call "laid" (.cons a0 (.cons a1 .nil))) env st Q X) = rho (wEs prog go (.cons a0 (.cons a1 .nil)) env st (fun xs s => wMs xs s fun ds s' => wF go f_laid ds s' Q X) X) := congrArg rho (wE_call rfl rfl rfl)
theorem i_f_laid {m : Nat} {s : Store} {Q : QE} {X : XC} {d0 d1 : D} : rho (wF (goW prog (m + 1)) f_laid [d0, d1] s Q X) = rho (wS prog (goW prog m) b_f_laid [some d0, some d1, none, none] s (fun _ s => Q (.v .non) s) Q (fun c fs _ s => X c fs s)) := congrArg rho wF_in
@[simp ↓] theorem c_f_overlay {go : Go} {env : Env} {st : Store} {Q : QE} {X : XC} {a0 : E} : rho (wE prog go (.call "overlay" (.cons a0 .nil)) env st Q X) = rho (wEs prog go (.cons a0 .nil) env st (fun xs s => wMs xs s fun ds s' => wF go f_overlay ds s' Q X) X) := congrArg rho (wE_call rfl rfl rfl)
theorem i_f_overlay {m : Nat} {s : Store} {Q : QE} {X : XC} {d0 : D} : rho (wF (goW prog (m + 1)) f_overlay [d0] s Q X) = rho (wS prog (goW prog m) b_f_overlay [some d0, none, none, none] s (fun _ s => Q (.v .non) s) Q (fun c fs _ s => X c fs s)) := congrArg rho wF_in
@[simp ↓] theorem c_f_place {go : Go} {env : Env} {st : Store} {Q : QE} {X : XC} {a0 a1 : E} : rho (wE prog go (.call "place" (.cons a0 (.cons a1 .nil))) env st Q X) = rho (wEs prog go (.cons a0 (.cons a1 .nil)) env st (fun xs s => wMs xs s fun ds s' => wF go f_place ds s' Q X) X) := congrArg rho (wE_call rfl rfl rfl)
theorem i_f_place {m : Nat} {s : Store} {Q : QE} {X : XC} {d0 d1 : D} : rho (wF (goW prog (m + 1)) f_place [d0, d1] s Q X) = rho (wS prog (goW prog m) b_f_place [some d0, some d1, none, none, none] s (fun _ s => Q (.v .non) s) Q (fun c fs _ s => X c fs s)) := congrArg rho wF_in
@[simp ↓] theorem c_f__law_cell {go : Go} {env : Env} {st : Store} {Q : QE} {X : XC} {a0 a1 : E} : rho (wE prog go (.call "_law_cell" (.cons a0 (.cons a1 .nil))) env st Q X) = rho (wEs prog go (.cons a0 (.cons a1 .nil)) env st (fun xs s => wMs xs s fun ds s' => wF go f__law_cell ds s' Q X) X) := congrArg rho (wE_call rfl rfl rfl)
@[simp ↓] theorem i_f__law_cell {m : Nat} {s : Store} {Q : QE} {X : XC} {d0 d1 : D} : rho (wF (goW prog (m + 1)) f__law_cell [d0, d1] s Q X) = rho (wS prog (goW prog m) b_f__law_cell [some d0, some d1] s (fun _ s => Q (.v .non) s) Q (fun c fs _ s => X c fs s)) := congrArg rho wF_in
@[simp ↓] theorem u_f__law_cell {go : Go} {env : Env} {s : Store} {N : NC} {T : QE} {X : XS} : rho (wS prog go b_f__law_cell env s N T X) = rho (wS prog go (.seq (.ifs (.cmp .lt (.loc 1) (.bi .len (.cons (.loc 0) .nil))) (.seq (.ret (.idx (.loc 0) (.loc 1)))
  .nop) .nop)
  (.seq (.ret (.int 0))
  .nop)) env s N T X) := rfl
@[simp ↓] theorem c_f__law_whole {go : Go} {env : Env} {st : Store} {Q : QE} {X : XC} {a0 : E} : rho (wE prog go (.call "_law_whole" (.cons a0 .nil)) env st Q X) = rho (wEs prog go (.cons a0 .nil) env st (fun xs s => wMs xs s fun ds s' => wF go f__law_whole ds s' Q X) X) := congrArg rho (wE_call rfl rfl rfl)
@[simp ↓] theorem i_f__law_whole {m : Nat} {s : Store} {Q : QE} {X : XC} {d0 : D} : rho (wF (goW prog (m + 1)) f__law_whole [d0] s Q X) = rho (wS prog (goW prog m) b_f__law_whole [some d0] s (fun _ s => Q (.v .non) s) Q (fun c fs _ s => X c fs s)) := congrArg rho wF_in
@[simp ↓] theorem u_f__law_whole {go : Go} {env : Env} {s : Store} {N : NC} {T : QE} {X : XS} : rho (wS prog go b_f__law_whole env s N T X) = rho (wS prog go (.seq (.ret (.and (.isi (.loc 0) [.bi .int] true) (.not (.isi (.loc 0) [.bi .bool] true))))
  .nop) env s N T X) := rfl
@[simp ↓] theorem c_f__law_base {go : Go} {env : Env} {st : Store} {Q : QE} {X : XC} {a0 : E} : rho (wE prog go (.call "_law_base" (.cons a0 .nil)) env st Q X) = rho (wEs prog go (.cons a0 .nil) env st (fun xs s => wMs xs s fun ds s' => wF go f__law_base ds s' Q X) X) := congrArg rho (wE_call rfl rfl rfl)
@[simp ↓] theorem i_f__law_base {m : Nat} {s : Store} {Q : QE} {X : XC} {d0 : D} : rho (wF (goW prog (m + 1)) f__law_base [d0] s Q X) = rho (wS prog (goW prog m) b_f__law_base [some d0] s (fun _ s => Q (.v .non) s) Q (fun c fs _ s => X c fs s)) := congrArg rho wF_in
@[simp ↓] theorem u_f__law_base {go : Go} {env : Env} {s : Store} {N : NC} {T : QE} {X : XS} : rho (wS prog go b_f__law_base env s N T X) = rho (wS prog go (.seq (.ifs (.cmp .eq (.bin .mod (.bin .fdiv (.call "_law_cell" (.cons (.loc 0) (.cons (.int 1) .nil))) (.int 72)) (.int 2)) (.int 1)) (.seq (.ret (.bin .sub (.bin .mod (.call "_law_cell" (.cons (.loc 0) (.cons (.int 0) .nil))) (.int 60)) (.int 30)))
  .nop) .nop)
  (.seq (.ret (.bin .sub (.bin .mod (.call "_law_cell" (.cons (.loc 0) (.cons (.int 0) .nil))) (.bin .mul (.int 2) (.bin .pow (.int 10) (.int 60)))) (.bin .pow (.int 10) (.int 60))))
  .nop)) env s N T X) := rfl
@[simp ↓] theorem c_f__law_some {go : Go} {env : Env} {st : Store} {Q : QE} {X : XC} {a0 : E} : rho (wE prog go (.call "_law_some" (.cons a0 .nil)) env st Q X) = rho (wEs prog go (.cons a0 .nil) env st (fun xs s => wMs xs s fun ds s' => wF go f__law_some ds s' Q X) X) := congrArg rho (wE_call rfl rfl rfl)
theorem i_f__law_some {m : Nat} {s : Store} {Q : QE} {X : XC} {d0 : D} : rho (wF (goW prog (m + 1)) f__law_some [d0] s Q X) = rho (wS prog (goW prog m) b_f__law_some [some d0, none, none, none, none, none, none] s (fun _ s => Q (.v .non) s) Q (fun c fs _ s => X c fs s)) := congrArg rho wF_in
@[simp ↓] theorem c_f__law_row {go : Go} {env : Env} {st : Store} {Q : QE} {X : XC} {a0 : E} : rho (wE prog go (.call "_law_row" (.cons a0 .nil)) env st Q X) = rho (wEs prog go (.cons a0 .nil) env st (fun xs s => wMs xs s fun ds s' => wF go f__law_row ds s' Q X) X) := congrArg rho (wE_call rfl rfl rfl)
@[simp ↓] theorem i_f__law_row {m : Nat} {s : Store} {Q : QE} {X : XC} {d0 : D} : rho (wF (goW prog (m + 1)) f__law_row [d0] s Q X) = rho (wS prog (goW prog m) b_f__law_row [some d0] s (fun _ s => Q (.v .non) s) Q (fun c fs _ s => X c fs s)) := congrArg rho wF_in
@[simp ↓] theorem u_f__law_row {go : Go} {env : Env} {s : Store} {N : NC} {T : QE} {X : XS} : rho (wS prog go b_f__law_row env s N T X) = rho (wS prog go (.seq (.ifs (.or (.not (.isi (.loc 0) [.bi .tuple] true)) (.cmp .ne (.bi .len (.cons (.loc 0) .nil)) (.int 3))) (.seq (.ret (.bl false))
  .nop) .nop)
  (.seq (.ifs (.or (.not (.call "_law_whole" (.cons (.idx (.loc 0) (.int 0)) .nil))) (.or (.not (.call "_law_whole" (.cons (.idx (.loc 0) (.int 1)) .nil))) (.not (.isi (.idx (.loc 0) (.int 2)) [.bi .str] true)))) (.seq (.ret (.bl false))
  .nop) .nop)
  (.seq (.ret (.cmp .le (.idx (.loc 0) (.int 0)) (.idx (.loc 0) (.int 1))))
  .nop))) env s N T X) := rfl
@[simp ↓] theorem c_f__law_apart {go : Go} {env : Env} {st : Store} {Q : QE} {X : XC} {a0 : E} : rho (wE prog go (.call "_law_apart" (.cons a0 .nil)) env st Q X) = rho (wEs prog go (.cons a0 .nil) env st (fun xs s => wMs xs s fun ds s' => wF go f__law_apart ds s' Q X) X) := congrArg rho (wE_call rfl rfl rfl)
theorem i_f__law_apart {m : Nat} {s : Store} {Q : QE} {X : XC} {d0 : D} : rho (wF (goW prog (m + 1)) f__law_apart [d0] s Q X) = rho (wS prog (goW prog m) b_f__law_apart [some d0, none] s (fun _ s => Q (.v .non) s) Q (fun c fs _ s => X c fs s)) := congrArg rho wF_in
@[simp ↓] theorem c_f__law_word {go : Go} {env : Env} {st : Store} {Q : QE} {X : XC} {a0 a1 : E} : rho (wE prog go (.call "_law_word" (.cons a0 (.cons a1 .nil))) env st Q X) = rho (wEs prog go (.cons a0 (.cons a1 .nil)) env st (fun xs s => wMs xs s fun ds s' => wF go f__law_word ds s' Q X) X) := congrArg rho (wE_call rfl rfl rfl)
theorem i_f__law_word {m : Nat} {s : Store} {Q : QE} {X : XC} {d0 d1 : D} : rho (wF (goW prog (m + 1)) f__law_word [d0, d1] s Q X) = rho (wS prog (goW prog m) b_f__law_word [some d0, some d1, none, none] s (fun _ s => Q (.v .non) s) Q (fun c fs _ s => X c fs s)) := congrArg rho wF_in
@[simp ↓] theorem c_f__law_place {go : Go} {env : Env} {st : Store} {Q : QE} {X : XC} {a0 a1 : E} : rho (wE prog go (.call "_law_place" (.cons a0 (.cons a1 .nil))) env st Q X) = rho (wEs prog go (.cons a0 (.cons a1 .nil)) env st (fun xs s => wMs xs s fun ds s' => wF go f__law_place ds s' Q X) X) := congrArg rho (wE_call rfl rfl rfl)
@[simp ↓] theorem i_f__law_place {m : Nat} {s : Store} {Q : QE} {X : XC} {d0 d1 : D} : rho (wF (goW prog (m + 1)) f__law_place [d0, d1] s Q X) = rho (wS prog (goW prog m) b_f__law_place [some d0, some d1, none, none] s (fun _ s => Q (.v .non) s) Q (fun c fs _ s => X c fs s)) := congrArg rho wF_in
@[simp ↓] theorem u_f__law_place {go : Go} {env : Env} {s : Store} {N : NC} {T : QE} {X : XS} : rho (wS prog go b_f__law_place env s N T X) = rho (wS prog go (.seq (.asg 2 (.call "place" (.cons (.loc 0) (.cons (.loc 1) .nil))))
  (.seq (.ret (.and (.call "_law_whole" (.cons (.loc 2) .nil)) (.cmp .eq (.loc 2) (.bi .len (.cons (.lc [3] true (.seq (.loc 0)) (some (.cmp .lt (.idx (.loc 3) (.int 1)) (.loc 1))) (.loc 3)) .nil)))))
  .nop)) env s N T X) := rfl
theorem i_f_law {m : Nat} {s : Store} {Q : QE} {X : XC} {d0 : D} : rho (wF (goW prog (m + 1)) f_law [d0] s Q X) = rho (wS prog (goW prog m) b_f_law [some d0, none, none, none, none, none, none] s (fun _ s => Q (.v .non) s) Q (fun c fs _ s => X c fs s)) := congrArg rho wF_in

theorem prog_eq : progOf body = prog := by kernel_rfl
theorem ok_all : (defsOf body).all okDef = true := by kernel_rfl
theorem g_laid (n a : Nat) (l : List Row) (r : Row) (st : Store) (h : st[a]? = some (.lst (rD l))) (hl : l.length ≤ 1000) : rho (wF (goW prog (n + 1)) f_laid [.ref a, .tup [.int r.a, .int r.b, .str r.w]] st (fun v s => v = .v (.ref st.length) ∧ s = st ++ [.lst (rD (lay l r))]) nX) := by
  have hlt : a < st.length := (List.getElem?_eq_some_iff.1 h).1
  have h' : ∀ c, (st ++ [c])[a]? = some (.lst (rD l)) := fun c => by rw [List.getElem?_append_left hlt]; exact h
  have hb : ∀ i, ((l.take i).flatMap (cut r)).length ≤ 2000 := fun i => by
    have h1 := flat_len (r := r) (l.take i)
    have h2 := List.length_filter_le (strd r) (l.take i)
    rw [List.length_take] at h1 h2
    omega
  rw [i_f_laid]; unfold b_f_laid
  simp
  refine wLoop_inv (rD l) (fun i e s => (∃ k, e = [some (.ref a), some (.tup [.int r.a, .int r.b, .str r.w]), some (.ref st.length), k]) ∧ s = st ++ [.lst (rD ((l.take i).flatMap (cut r)))]) ?_ ?_ ?_ ?_
  · rintro i e s ⟨_, rfl⟩; exact h' _
  · simp
  · rintro i d e s hd ⟨⟨k, rfl⟩, rfl⟩
    obtain ⟨o, rfl, ho⟩ := rD_get hd
    have hb1 := hb i
    have l1 : ((l.take i).flatMap (cut r)).length < lim := by unfold lim; omega
    have l2 : ((l.take i).flatMap (cut r)).length + 1 < lim := by unfold lim; omega
    rw [List.take_succ, ho, List.flatMap_append]
    generalize (l.take i).flatMap (cut r) = acc at *
    have e1 : (some o).toList.flatMap (cut r) = cut r o := by simp [Option.toList]
    rw [e1]
    unfold cut
    by_cases c1 : o.a < r.a <;> by_cases c2 : r.b < o.b <;> simp [c1, c2, l1, l2]
  · rintro e s ⟨⟨k, rfl⟩, rfl⟩
    have hb1 := hb l.length
    rw [List.take_length] at hb1
    simp [-List.length_flatMap]
    exact ⟨by unfold lim; omega, rfl⟩
theorem g_overlay (n a : Nat) (l : List Row) (st : Store) (h : st[a]? = some (.lst (rD l))) (hl : l.length ≤ 400) (hp : ∀ r ∈ l, r.a ≤ r.b) (ho : rOk l) : rho (wF (goW prog (n + 2)) f_overlay [.ref a] st (fun v s => ∃ m, v = .v (.ref m) ∧ s[m]? = some (.lst (rD (ovl l))) ∧ st.length ≤ m ∧ ∃ j, s = st ++ j) nX) := by
  have hlt : a < st.length := (List.getElem?_eq_some_iff.1 h).1
  rw [i_f_overlay]; unfold b_f_overlay
  simp
  refine wLoop_inv (rD l) (fun i e s => ∃ j k x, e = [some (.ref a), some (.ref j), k, none] ∧ s = st ++ x ∧ s[j]? = some (.lst (rD ((l.take i).foldl lay [])))) ?_ ?_ ?_ ?_
  · rintro i e s ⟨j, k, x, rfl, rfl, _⟩
    rw [List.getElem?_append_left hlt]; exact h
  · exact ⟨_, _, _, rfl, rfl, st_last⟩
  · rintro i d e s hd ⟨j, k, x, rfl, rfl, hj⟩
    obtain ⟨o, rfl, hoo⟩ := rD_get hd
    have hlen : ((l.take i).foldl lay []).length ≤ 1000 := by
      have := (lays_ok (l := l.take i) (a := []) (fun r hr => hp r (List.mem_of_mem_take hr)) dis_nil).2.2
      rw [List.length_take] at this
      simp at this
      omega
    simp
    refine wF_use (g_laid n j _ o _ hj hlen) ?_
    rintro _ _ ⟨rfl, rfl⟩
    simp
    rw [List.take_succ, hoo, List.foldl_append]
    rfl
  · rintro e s ⟨j, k, x, rfl, hs1, hj⟩
    rw [rD_len, List.take_length] at hj
    have hjl : j < s.length := (List.getElem?_eq_some_iff.1 hj).1
    have hj' : ∀ c, (s ++ [c])[j]? = some (.lst (rD (l.foldl lay []))) := fun c => by rw [List.getElem?_append_left hjl]; exact hj
    simp
    rw [congrArg rho (wGet_of (hj' _))]
    simp
    have hll := ovl_len hp
    have hk := (lays_ok hp dis_nil).2.2
    have hrk := lays_rok ho rOk_nil
    simp at hk
    refine wFl_inv (fun i e s' => (∃ k, e = [some (.ref a), some (.ref j), k, some (.ref s.length)]) ∧ s' = s ++ [.lst (rD (((sortBy ltR (l.foldl lay [])).take i).foldl oR []).reverse)]) ?_ ?_ ?_
    · simp
    · rintro i d e s' hd ⟨⟨k, rfl⟩, rfl⟩
      obtain ⟨r, rfl, hr⟩ := rD_get hd
      rw [List.take_succ, hr, List.foldl_append]
      have hlen : (((sortBy ltR (l.foldl lay [])).take i).foldl oR []).length ≤ 1000 := by
        have := oRs_len ((sortBy ltR (l.foldl lay [])).take i) []
        rw [List.length_take, sort_len] at this
        simp at this
        omega
      have hok : rOk (((sortBy ltR (l.foldl lay [])).take i).foldl oR []) := oRs_rok (fun p hp => sort_rok hrk p (List.mem_of_mem_take hp)) rOk_nil
      generalize ((sortBy ltR (l.foldl lay [])).take i).foldl oR [] = acc at hlen hok
      simp only [Option.toList, List.foldl]
      cases acc with
      | nil =>
        simp
        rw [wC_rDe (l := []) (st_last : (s ++ [Cell.lst []])[s.length]? = some (.lst [])) rOk_nil]
        simp [oR]
        exact ⟨by unfold lim; omega, rfl⟩
      | cons q t =>
        have hok' : rOk (t.reverse ++ [q]) := fun p hp => hok p (by simpa [or_comm] using hp)
        rw [oR_cons]
        simp
        rw [wC_rDe st_last hok']
        simp [wAt_lastR]
        have hlm : t.length + 1 < lim := by simp at hlen; unfold lim; omega
        by_cases c1 : q.b + 1 = r.a
        · by_cases c2 : q.w = r.w
          · simp [c1, c2]
          · simp [c1, c2, hlm]
        · simp [c1, hlm]
    · rintro e s' ⟨⟨k, rfl⟩, rfl⟩
      simp [sort_len]
      rw [List.take_of_length_le (by rw [sort_len]; exact Nat.le_refl _)]
      rw [hs1]
      exact ⟨rfl, by simp, _, List.append_assoc ..⟩
def plr (l : List Row) (d : Int) : Nat := (l.filter fun p => decide (p.b < d)).length
theorem plr_of : ∀ {l : List Row} {d : Int} {k : Nat}, k ≤ l.length → (∀ i p, i < k → l[i]? = some p → p.b < d) → (∀ i p, k ≤ i → l[i]? = some p → ¬ p.b < d) → plr l d = k
  | [], d, k, hk, _, _ => by
    have : k = 0 := by simpa using hk
    subst this; rfl
  | a :: l, d, 0, _, _, h2 => by
    unfold plr
    rw [List.filter_eq_nil_iff.2]
    · rfl
    intro p hp
    obtain ⟨i, hi⟩ := List.getElem?_of_mem hp
    simpa using h2 i p (Nat.zero_le _) hi
  | a :: l, d, k + 1, hk, h1, h2 => by
    have ih := plr_of (l := l) (d := d) (k := k) (by simpa using hk) (fun i p hi hp => h1 (i + 1) p (by omega) hp) (fun i p hi hp => h2 (i + 1) p (by omega) hp)
    have h0 := h1 0 a (by omega) rfl
    unfold plr at *
    rw [List.filter_cons_of_pos (by simpa using h0), List.length_cons, ih]
theorem ord_get {l : List Row} (h : Ord l) {i j : Nat} {p q : Row} (hi : l[i]? = some p) (hj : l[j]? = some q) (hij : i < j) : p.b < q.a := by
  obtain ⟨a, rfl⟩ := List.getElem?_eq_some_iff.1 hi
  obtain ⟨b, rfl⟩ := List.getElem?_eq_some_iff.1 hj
  exact List.pairwise_iff_getElem.1 h.1 i j a b hij
theorem ord_one {l : List Row} (h : Ord l) {i : Nat} {p : Row} (hi : l[i]? = some p) : p.a ≤ p.b := h.2 p (List.mem_of_getElem? hi)
theorem w_place {n a : Nat} {l : List Row} {d : Int} {st : Store} {Q : QE} {X : XC} (h : st[a]? = some (.lst (rD l))) (hl : l.length ≤ 100) (ha : Ord l) : rho (wF (goW prog (n + 1)) f_place [.ref a, .int d] st Q X) = rho (Q (.v (.int (plr l d))) st) := by
  refine congrArg rho (wF_det ?_)
  rw [i_f_place]; unfold b_f_place
  simp
  rw [congrArg rho (wCl_of h)]
  simp [-Prod.forall]
  refine wS_wh l.length (fun m e s => (∃ (lo hi : Nat) (k : Option D), e = [some (.ref a), some (.int d), some (.int lo), some (.int hi), k] ∧ lo ≤ hi ∧ hi ≤ l.length ∧ hi - lo ≤ m ∧ (∀ i p, i < lo → l[i]? = some p → p.b < d) ∧ (∀ i p, hi ≤ i → l[i]? = some p → d ≤ p.b)) ∧ s = st) (by omega) ?_ ?_
  · refine ⟨⟨0, l.length, none, rfl, by omega, by omega, by omega, fun i p hi => absurd hi (by omega), fun i p hi hp => ?_⟩, rfl⟩
    rw [List.getElem?_eq_none hi] at hp; cases hp
  · rintro m e s ⟨⟨lo, hi, k, rfl, h1, h2, h3, h4, h5⟩, rfl⟩
    simp [-Prod.forall]
    by_cases c : lo < hi
    · obtain ⟨w, hw⟩ : ∃ w : Nat, ((lo : Int) + hi) / 2 = w := ⟨(((lo : Int) + hi) / 2).toNat, by omega⟩
      have hw1 : lo ≤ w ∧ w < hi := by omega
      obtain ⟨p, hp⟩ : ∃ p, l[w]? = some p := ⟨_, List.getElem?_eq_getElem (by omega)⟩
      have hm : 0 < m := by omega
      simp only [c, hm, hw, if_true, true_and]
      rw [congrArg rho (wCl_of h)]
      simp [-Prod.forall]
      rw [wAt_rD hp]
      simp [-Prod.forall]
      by_cases c2 : p.b < d
      · rw [if_pos c2]
        refine ⟨w + 1, hi, ⟨by omega, rfl⟩, by omega, by omega, by omega, fun i q hi' hq => ?_, h5⟩
        by_cases z : i = w
        · subst z
          rw [hp] at hq; cases hq; exact c2
        · have y1 := ord_get ha hq hp (by omega)
          have y2 := ord_one ha hp
          omega
      · rw [if_neg c2]
        refine ⟨lo, w, ⟨rfl, rfl⟩, by omega, by omega, by omega, h4, fun i q hi' hq => ?_⟩
        by_cases z : i = w
        · subst z
          rw [hp] at hq; cases hq; omega
        · have y1 := ord_get ha hp hq (by omega)
          have y2 := ord_one ha hq
          omega
    · simp only [c, if_false]
      have : lo = hi := by omega
      subst this
      have e := plr_of h2 h4 fun i p hi hp => Int.not_lt.2 (h5 i p hi hp)
      rw [e]
theorem w_apart {n a : Nat} {l : List Row} {st : Store} {Q : QE} {X : XC} (h : st[a]? = some (.lst (rD l))) (hl : l.length ≤ 100) (ha : Ord l) (hj : Adj l) : rho (wF (goW prog (n + 3)) f__law_apart [.ref a] st Q X) = rho (Q (.v (.bl true)) st) := by
  refine congrArg rho (wF_det ?_)
  rw [i_f__law_apart]; unfold b_f__law_apart
  simp
  rw [congrArg rho (wCl_of h)]
  simp
  rw [congrArg rho (wCl_of h)]
  simp
  refine ⟨by omega, wFl_inv (fun i e s => (∃ k1, e = [some (.ref a), k1]) ∧ s = st) ?_ ?_ ?_⟩
  · simp
  · rintro i d e s hd ⟨⟨k1, rfl⟩, rfl⟩
    obtain ⟨rfl, hi⟩ := rng_get hd
    have hi' : i < l.length := by omega
    have hp : l[i]? = some l[i] := List.getElem?_eq_getElem hi'
    have hcl : ∀ Q, rho (wCl s a Q) = rho (Q (.lst (rD l))) := fun Q => congrArg rho (wCl_of h)
    have h1 := ord_one ha hp
    cases i with
    | zero =>
      have hA : ∀ Q, rho (wAt (rD l) 0 Q) = rho (Q (.tup [.int l[0].a, .int l[0].b, .str l[0].w])) := fun Q => wAt_rD (k := 0) hp
      simp [hcl, hA, h1]
    | succ j =>
      have hq : l[j]? = some l[j] := List.getElem?_eq_getElem (by omega)
      have hA : ∀ Q, rho (wAt (rD l) ((j : Int) + 1) Q) = rho (Q (.tup [.int l[j + 1].a, .int l[j + 1].b, .str l[j + 1].w])) := fun Q => wAt_rD (k := j + 1) hp
      have hB : ∀ Q, rho (wAt (rD l) (j : Int) Q) = rho (Q (.tup [.int l[j].a, .int l[j].b, .str l[j].w])) := fun Q => wAt_rD hq
      have h2 := ord_get ha hq hp (by omega)
      have h3 := hj j _ _ hq hp
      have h4 : ¬ l[j + 1].a ≤ l[j].b := by omega
      have h5 : (0 : Int) < (j : Int) + 1 := by omega
      simp [hcl, hA, hB, h1, h4, h5]
      exact fun z w => h3 ⟨by omega, w.symm⟩
  · rintro e s ⟨⟨k1, rfl⟩, rfl⟩
    simp
theorem w_word {n a : Nat} {l : List Row} {d : Int} {st : Store} {Q : QE} {X : XC} (h : st[a]? = some (.lst (rD l))) : rho (wF (goW prog (n + 2)) f__law_word [.ref a, .int d] st Q X) = rho (Q (.v (.str (word l d))) st) := by
  refine congrArg rho (wF_det ?_)
  rw [i_f__law_word]; unfold b_f__law_word
  simp
  refine wLoop_inv (rD l) (fun i e s => (∃ k1, e = [some (.ref a), some (.int d), some (.str (word (l.take i) d)), k1]) ∧ s = st) ?_ ?_ ?_ ?_
  · rintro i e s ⟨_, rfl⟩; exact h
  · exact ⟨⟨_, rfl⟩, rfl⟩
  · rintro i x e s hd ⟨⟨k1, rfl⟩, rfl⟩
    obtain ⟨p, rfl, hp⟩ := rD_get hd
    rw [List.take_succ, hp]
    simp only [Option.toList]
    rw [word_app]
    by_cases c1 : p.a ≤ d <;> by_cases c2 : d ≤ p.b <;> simp [c1, c2, Row.has]
  · rintro e s ⟨⟨k1, rfl⟩, rfl⟩
    simp
def lcf (d : Int) : D → Option D
  | .tup [.int a, .int b, w] => if b < d then some (.tup [.int a, .int b, w]) else none
  | _ => none
theorem lcf_len (d : Int) : ∀ l : List Row, ((rD l).filterMap (lcf d)).length = plr l d
  | [] => rfl
  | p :: l => by
    have ih := lcf_len d l
    unfold plr at *
    show ((D.tup [.int p.a, .int p.b, .str p.w] :: rD l).filterMap (lcf d)).length = _
    by_cases c : p.b < d
    · rw [List.filterMap_cons_some (b := .tup [.int p.a, .int p.b, .str p.w]) (by show (if p.b < d then _ else _) = _; rw [if_pos c]), List.filter_cons_of_pos (by simpa using c), List.length_cons, List.length_cons, ih]
    · rw [List.filterMap_cons_none (by show (if p.b < d then _ else _) = _; rw [if_neg c]), List.filter_cons_of_neg (by simpa using c), ih]
theorem w_place2 {n a : Nat} {l : List Row} {d : Int} {st : Store} {Q : QE} {X : XC} (h : st[a]? = some (.lst (rD l))) (hl : l.length ≤ 100) (ha : Ord l) : rho (wF (goW prog (n + 3)) f__law_place [.ref a, .int d] st Q X) = rho (Q (.v (.bl true)) st) := by
  simp
  rw [w_place h hl ha]
  simp
  rw [congrArg rho (wGet_of h), wLc_map (rD l) (lcf d) (lt_lim (by simp; omega)) (itRef h) ?_]
  · simp [lcf_len]
  · intro x hx
    obtain ⟨p, _, rfl⟩ := List.mem_map.1 hx
    refine wLcF_eq ?_
    rw [wBd_of rfl]
    show rho (wE _ _ _ _ _ _ _)
    simp [lcf, Row.d]
theorem w_cell {n : Nat} {k : Int} {ns : List Int} {st : Store} {Q : QE} {X : XC} (hk : 0 ≤ k) : rho (wF (goW prog (n + 1)) f__law_cell [.ro (iD ns), .int k] st Q X) = rho (Q (.v (.int (cellAt ns k))) st) := by
  simp
  exact (wCellE hk).to_iff
theorem g_base (n : Nat) (ns : List Int) (st : Store) : rho (wF (goW prog (n + 3)) f__law_base [.ro (iD ns)] st (fun v s => ∃ b, v = .v (.int b) ∧ s = st) nX) := by
  simp (disch := omega) [-i_f__law_cell, w_cell]
theorem wAt_iDc {l : List Int} {i : Int} {Q : D → Prop} (h : 0 ≤ i ∧ i < l.length) : rho (wAt (iD l) i Q) = rho (Q (.int (cellAt l i))) := by
  obtain ⟨k, rfl⟩ : ∃ k : Nat, i = k := ⟨i.toNat, by omega⟩
  have hk : k < l.length := by omega
  have e : l[k]? = some (cellAt l k) := by
    unfold cellAt
    simp [List.getElem?_eq_getElem hk]
  exact wAt_iD e
theorem rgs_lt {j : Int} {i : Nat} (h : i < (Builtin.Range.rangeSize 2 j 3).toNat) : 2 + (i : Int) * 3 < j := by
  unfold Builtin.Range.rangeSize at h
  split at h <;> (try split at h) <;> omega
def wd (i : Int) : Str := if i = 0 then "free" else "open"
theorem wAt_wd {i : Int} {Q : D → Prop} (h : 0 ≤ i ∧ i < 2) : rho (wAt [.str "free", .str "open"] i Q) = rho (Q (.str (wd i))) := by
  rcases (by omega : i = 0 ∨ i = 1) with rfl | rfl
  · exact congrArg rho wAt_0
  · exact congrArg rho wAt_1
theorem wd_ok (i : Int) : PyData.strOk (wd i) = true := by unfold wd; split <;> kernel_rfl
theorem g_some (n : Nat) (ns : List Int) (st0 : Store) : rho (wF (goW prog (n + 5)) f__law_some [.ro (iD ns)] st0 (fun v s => ∃ l, v = .v (.ref st0.length) ∧ s = st0 ++ [.lst (rD l)] ∧ l.length ≤ 30 ∧ (∀ p ∈ l, p.a ≤ p.b) ∧ rOk l) nX) := by
  rw [i_f__law_some]; unfold b_f__law_some
  simp [-i_f__law_base]
  refine wF_use (g_base (n + 1) ns _) ?_
  rintro _ s ⟨b, rfl, e⟩
  have e := e.symm; subst e
  simp (disch := omega) [-i_f__law_cell, w_cell, wAt_pk3]
  refine ⟨rgc_ok (by omega) (by omega) (by omega), ?_⟩
  have hsp : 0 < pk3 20 400 1000000000000000000000000000000000000000000000000000000000000 (cellAt ns 1 % 3) := by unfold pk3; split <;> (try split) <;> omega
  generalize pk3 20 400 1000000000000000000000000000000000000000000000000000000000000 (cellAt ns 1 % 3) = sp at hsp
  refine wFl_inv (fun i e s => (∃ k4 k5 k6, e = [some (.ro (iD ns)), some (.int b), some (.int sp), some (.ref st0.length), k4, k5, k6]) ∧ ∃ l, s = st0 ++ [.lst (rD l)] ∧ l.length = i ∧ (∀ p ∈ l, p.a ≤ p.b) ∧ rOk l) ?_ ?_ ?_
  · exact ⟨⟨_, _, _, rfl⟩, [], rfl, rfl, (fun p hp => by cases hp), rOk_nil⟩
  · rintro i d e s hd ⟨⟨k4, k5, k6, rfl⟩, l, rfl, rfl, hl, ho⟩
    obtain ⟨rfl, hi⟩ := rgc_get hd
    have hr := rgs_lt hi
    have hll : l.length + 1 < lim := lt_lim (by omega)
    simp (disch := omega) [wAt_iDc, wAt_wd]
    have key : ∀ x y i : Int, x ≤ y → ∀ p ∈ l ++ [Row.mk x y (wd i)], p.a ≤ p.b := fun x y i hxy p hp => by
      rcases List.mem_append.1 hp with hp | hp
      · exact hl p hp
      · rw [List.mem_singleton.1 hp]; exact hxy
    have kk : ∀ x y i : Int, rOk (l ++ [Row.mk x y (wd i)]) := fun x y i p hp => by
      rcases List.mem_append.1 hp with hp | hp
      · exact ho p hp
      · rw [List.mem_singleton.1 hp]; exact wd_ok i
    split
    · refine ⟨by omega, _, rfl, by simp, key _ _ _ ?_, kk _ _ _⟩
      have := Int.emod_nonneg (cellAt ns (2 + l.length * 3 + 1) / 40) (Int.ne_of_gt hsp)
      omega
    · exact ⟨by omega, _, rfl, by simp, key _ _ _ (by omega), kk _ _ _⟩
  · rintro e s ⟨⟨k4, k5, k6, rfl⟩, l, rfl, hi, hl, ho⟩
    simp
    refine ⟨l, rfl, ?_, hl, ho⟩
    rw [rgc_len] at hi
    have : (Builtin.Range.rangeSize 2 (min (ns.length : Int) 62 - 2) 3).toNat ≤ 30 := by
      unfold Builtin.Range.rangeSize
      split <;> (try split) <;> omega
    omega
theorem app_get {s j : Store} {i : Nat} {c : Cell} (h : s[i]? = some c) : (s ++ j)[i]? = some c := by
  rw [List.getElem?_append_left (List.getElem?_eq_some_iff.1 h).1]; exact h
theorem set_get {s : Store} {i n : Nat} {c c' : Cell} (h : s[i]? = some c) (hn : n ≠ i) : (s.set n c')[i]? = some c := by
  rw [List.getElem?_set_ne hn]; exact h
theorem g_law (ns : List Int) (h : ns.length ≤ 63) : rho (wF (goW prog 9) f_law [.ro (iD ns)] [] tr nX) := by
  rw [i_f_law]; unfold b_f_law
  simp
  refine wF_use (g_some 3 ns _) ?_
  rintro _ _ ⟨l, rfl, rfl, hl, hp, hok⟩
  simp [-i_f__law_place]
  refine wF_use (g_overlay 6 1 l _ rfl (by omega) hp hok) ?_
  rintro _ s2 ⟨m, rfl, hm1, hm2, j, hs2⟩
  have g0 : s2[0]? = some (.lst (rD l)) := by rw [hs2]; rfl
  have g1 : s2[1]? = some (.lst (rD l)) := by rw [hs2]; rfl
  have hm2 : 2 ≤ m := hm2
  clear hs2
  have hml : m < s2.length := (List.getElem?_eq_some_iff.1 hm1).1
  obtain ⟨ha, hadj, hc⟩ := ovl_ok hp
  have hok2 := ovl_rok hok
  have hm : (ovl l).length ≤ 100 := Nat.le_trans (ovl_len hp) (by omega)
  simp [-i_f__law_place]
  rw [w_apart (l := ovl l) hm1 hm ha hadj]
  simp [-i_f__law_place]
  have w0 : ∀ Q, rho (wGet s2 0 Q) = rho (Q (rD l)) := fun Q => congrArg rho (wGet_of g0)
  have wm : ∀ Q, rho (wGet s2 m Q) = rho (Q (rD (ovl l))) := fun Q => congrArg rho (wGet_of hm1)
  simp [-i_f__law_place, w0, wm]
  refine ⟨lt_lim (by omega), wFl_inv (fun i e s => (∃ k4 k5 k6, e = [some (.ro (iD ns)), some (.ref 0), some (.ref 1), some (.ref m), k4, k5, k6]) ∧ s = s2) ?_ ?_ ?_⟩
  · simp
  · rintro i d e s hd ⟨⟨k4, k5, k6, rfl⟩, rfl⟩
    obtain ⟨p, rfl, _⟩ := rD_get hd
    have q0 := fun n d Q X => w_word (n := n) (d := d) (Q := Q) (X := X) g0
    have q1 := fun n d Q X => w_word (n := n) (d := d) (Q := Q) (X := X) hm1
    simp [q0, q1, hc]
  · rintro e s ⟨⟨k4, k5, k6, rfl⟩, rfl⟩
    have wl : ∀ Q, rho (wCl s m Q) = rho (Q (.lst (rD (ovl l)))) := fun Q => congrArg rho (wCl_of hm1)
    simp [-i_f__law_place, wl]
    have wm' : ∀ c Q, rho (wGet (s ++ [c]) m Q) = rho (Q (rD (ovl l))) := fun c Q => congrArg rho (wGet_of (app_get hm1))
    simp [-i_f__law_place, wm']
    obtain ⟨s3, hs3⟩ : ∃ s3, s3 = (s ++ [Cell.lst (rD (ovl l))]).set m (.lst []) := ⟨_, rfl⟩
    have f0 : s3[0]? = some (.lst (rD l)) := by rw [hs3]; exact set_get (app_get g0) (by omega)
    have f1 : s3[1]? = some (.lst (rD l)) := by rw [hs3]; exact set_get (app_get g1) (by omega)
    have fk : s3[s.length]? = some (.lst (rD (ovl l))) := by rw [hs3]; exact set_get st_last (by omega)
    rw [← hs3]
    clear hs3
    rw [wC_rDne f1 f0 hok hok]
    simp [-i_f__law_place]
    refine wF_use (g_overlay 6 1 l _ f1 (by omega) hp hok) ?_
    rintro _ s4 ⟨m', rfl, hm1', _, j', rfl⟩
    simp [-i_f__law_place]
    rw [w_apart (l := ovl l) hm1' hm ha hadj]
    simp [-i_f__law_place]
    have fk' := app_get (j := j') fk
    rw [wC_rDne hm1' fk' hok2 hok2]
    simp [-i_f__law_place]
    refine wLoop_inv (rD (ovl l)) (fun i e s' => (∃ k4 k5, e = [some (.ro (iD ns)), some (.ref 0), some (.ref 1), some (.ref m'), k4, k5, some (.ref s.length)]) ∧ s' = s3 ++ j') ?_ ?_ ?_ ?_
    · rintro i e s' ⟨_, rfl⟩; exact fk'
    · simp
    · rintro i d e s' hd ⟨⟨k4, k5, rfl⟩, rfl⟩
      obtain ⟨p, rfl, _⟩ := rD_get hd
      have q1 := fun n d Q X => w_place2 (n := n) (d := d) (Q := Q) (X := X) hm1' hm ha
      simp [-i_f__law_place, q1]
    · rintro e s' ⟨⟨k4, k5, rfl⟩, rfl⟩
      simp [-i_f__law_place]
      rw [wC_rDeq hm1' fk' hok2 hok2]
      simp
abbrev R : PySem.W.OpenRow := PySem.W.OpenLaw.row PySem.Challenge.rw_termcourt_k22_the_last_row_says
abbrev hk : PySem.W.Hook := He.hookD 6 (faOf body) (defsOf body)
def ob (s : PySem.W.SharedT) : He.AlD := He.obsDG 6 (faOf body) (defsOf body) (HandSHeadRun.getT s)
theorem ob_eq (s : PySem.W.SharedT) : ob s = hk.obs s.abs := He.obsDG_eq (HandSHeadRun.getT_eq s)
def loose : List Str := ["__name__", "laid", "overlay", "place", "_law_cell", "_law_whole", "_law_base", "_law_some", "_law_row", "_law_apart", "_law_word", "_law_place"]
theorem run (w : World) : HandSHeadRun.RunEq R (PySem.W.view R.prog [13]) hk ob 940 loose w := by
  intro os
  kernel_rfl
theorem runs (ns : List Int) (h : ns.length ≤ 63) : ∃ st, goI (progOf body) (8 + 1) f_law [.ro (ns.map D.int)] [] = .ok (.v (.bl true)) st := by
  rw [prog_eq]
  obtain ⟨v, s, e, rfl⟩ := (g_law ns h).eq
  rw [goW_eq] at e
  exact ⟨s, e⟩
theorem walk {XP : (Str → Option Value) → Heap → Prop} : PySem.W.WalkO (PySem.W.view R.prog [13]) loose XP hk.says R.toRowW (HandSHeadRun.topDef R.prog 13) [] (fun f vs => PySem.call f vs) :=
  walk_law (l := PySem.Challenge.rw_termcourt_k22_the_last_row_says) (body := body) (m := 63) (f := f_law) 8 rfl (by decide) (by kernel_rfl) ⟨rfl, by decide, by decide⟩ (by kernel_rfl) ok_all (by kernel_rfl) (by kernel_rfl) rfl runs
end SI.K22
open PySem PySem.W PySem.Calls PyProof.Rows
theorem PySem.Challenge.cw_termcourt_k22_the_last_row_says_holds : PySem.Challenge.rw_termcourt_k22_the_last_row_says.Holds := by
  w_on; o_law
  refine HandSHeadRun.head_any (r := SI.K22.R) (q := view SI.K22.R.prog [13]) (H := SI.K22.hk) (ob := SI.K22.ob) (M := 940) (loose := SI.K22.loose) (d := HandSHeadRun.topDef SI.K22.R.prog 13) (kwd := []) SI.K22.ob_eq
    (by kernel_rfl) (fun s => by kernel_rfl) SI.K22.run (by kernel_rfl) (by kernel_rfl) (by kernel_rfl) (by rfl) (by first | assumption | decide +kernel) (by decide +kernel) ⟨rfl, rfl, rfl, rfl, rfl, by decide +kernel⟩ ?hw ?hc
  case hw => w_witness2
  case hc => exact SI.K22.walk

